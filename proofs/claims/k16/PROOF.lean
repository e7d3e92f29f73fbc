import PyProof.Rows.All
import Wide.All
import OpenK.AllK
import Wide.FinOn
import HandS.Conv
import HandS.Deep
import HandS.Dict
import HandS.EndTab
import HandS.ExcIs
import HandS.ExcOwn
import HandS.ForExc
import HandS.ForMost
import HandS.IsInst
import HandS.Lambda
import HandS.Nested
import HandS.RaiseMore
import HandS.SetFor
import HandS.SortKw
import HandS.Strs
import HandS.Style
import HandS.TryOnly
import HandS.TupAny
import HandS.TupMul
import HandS.TupSets
import HandS.Zip
import KE.DataCmp
import KE.DataMinKey
import KE.DataMinMax
import KE.GoesEnum
import KE.KDictDisplayH
import KE.SortData
import KE.SortKeyHeap
import PyProof.MaxThree
import PySem.Challenge.RW_orderwise_k16_jumps_and_calm_lines
set_option Elab.async false
set_option linter.all false
set_option autoImplicit false
set_option maxRecDepth 100000
set_option maxHeartbeats 0
namespace R
open PySem PySem.Spec PyProof.Rows L2
structure PlainT (o : Obj) : Prop where
  cls : o.cls = .type "tuple"
  dict : o.dict = none
def Tp (K : PySem.W.Frag) (H : Hp) (a : Addr) (xs : List V) : Prop :=
  (∃ o, H a = some (.frz o (.tup xs)) ∧ PlainT o) ∨
    ∃ (o : Obj) (its : Array Value) (n : Nat), K.lookup a = some o ∧ PlainT o ∧ o.data = .seq its n ∧ its.size ≤ sizeLine ∧ Vals xs its.toList
theorem Tp.sq {K : PySem.W.Frag} {H : Hp} {a : Addr} {xs : List V} (h : Tp K H a xs) : SqT K H a xs := by
  rcases h with ⟨o, e, _⟩ | ⟨o, its, n, e, c, r⟩
  · exact .inl (.inr ⟨o, e⟩)
  · exact .inr ⟨o, its, n, e, c.cls, r⟩
theorem Tp.mono {K : PySem.W.Frag} {H H' : Hp} {a : Addr} {xs : List V} (s : ∀ b u, H b = some u → H' b = some u) (h : Tp K H a xs) : Tp K H' a xs := by
  rcases h with ⟨o, e, c⟩ | r
  · exact .inl ⟨o, s _ _ e, c⟩
  · exact .inr r
theorem Tp.at {K : PySem.W.Frag} {H : Hp} {a : Addr} {xs : List V} {o : Obj} (c : PlainT o) : Tp K (upd H a (.frz o (.tup xs))) a xs := .inl ⟨o, upd_same, c⟩
theorem Tp.obj {X : Cx} {pins : List (Addr × Obj)} {σ : L2.St} {H : Hp} {s : Shared} {a : Addr} {xs : List V} (I : Inv X pins σ H s) (h : Tp X.K H a xs) : ∃ o, s.heap.get? a = some o ∧ PlainT o := by
  rcases h with ⟨o, e, c⟩ | ⟨o, its, n, e, c, r⟩
  · have z := I.hok a _ e
    exact ⟨o, z.1, c⟩
  · exact ⟨o, I.kIn a o e, c⟩
section
variable {X : Cx} {pins : List (Addr × Obj)} {σ : L2.St} {H : Hp} {s : Shared} {Q : VK} {xs : List V} {its : List Value}
def Fz (H : Hp) (xs : List V) (Q : VK) : Prop := ∀ p o, H p = none → PlainT o → Q (.ref p) (upd H p (.frz o (.tup xs)))
theorem laid_tup (I : Inv X pins σ H s) (r : Vals xs its) (hz : xs.length ≤ sizeLine) (q : Fz H xs Q) (tk : Nat) :
    EP X pins σ Q (.ref s.heap.objs.size) { s with heap := s.heap.push { cls := .type "tuple", data := .seq its.toArray }, toks := tk } := by
  have J := I.laid (t' := tk) (h' := s.heap.push { cls := .type "tuple", data := .seq its.toArray }) (a := s.heap.objs.size) (o := .frz _ (.tup xs))
    (fun _ _ z => Heap.get?_push_of_some _ z) (Nat.le_refl _) ⟨Heap.get?_push_size _ rfl, hz, its, r, IsTup.new _ _⟩
  exact ⟨.ref s.heap.objs.size, _, J, rfl, q _ _ (I.hok.fresh (Nat.le_refl _)) ⟨rfl, rfl⟩⟩
end
section
variable {X : Cx}
theorem pe_tupF {es : List Expr} {t : TA} {x1} {pos : Pos} (h : PA X es t) : PE X (.Tuple es x1 pos) (fun σ H Q => t σ H fun xs H1 => xs.length ≤ sizeLine ∧ Fz H1 xs Q) :=
  ⟨fun pins s σ H Q I hq => wpAny_Tuple_spliced (thn (h.run pos pins s σ H _ I hq) fun us s1 ⟨xs, H1, J, r, z, q⟩ => ⟨by rw [← r.length]; exact z, laid_tup J r z q s1.toks⟩)⟩
def rCatF (K : PySem.W.Frag) : R2 := fun x y H Q => ∃ a b xs ys, x = .ref a ∧ y = .ref b ∧ SqT K H a xs ∧ SqT K H b ys ∧ xs.length + ys.length ≤ sizeLine ∧
  (xs = [] → Q (.ref b) H) ∧ (xs ≠ [] → ys = [] → Q (.ref a) H) ∧ (xs ≠ [] → ys ≠ [] → Fz H (xs ++ ys) Q)
theorem op_catF : OpR X (binaryOp .Add) (rCatF X.K) := by
  intro pn s0 st H0 v1 v2 w1 w2 Q J e1 e2 ⟨a, b, xs, ys, z1, z2, ta, tb, hl, k0, k1, k2⟩
  by_cases n1 : xs = []
  · exact op_catA pn s0 st H0 v1 v2 w1 w2 Q J e1 e2 ⟨a, b, xs, ys, z1, z2, ta, tb, hl, k0, k1, fun z => (z n1).elim⟩
  by_cases n2 : ys = []
  · exact op_catA pn s0 st H0 v1 v2 w1 w2 Q J e1 e2 ⟨a, b, xs, ys, z1, z2, ta, tb, hl, k0, k1, fun _ z => (z n2).elim⟩
  subst z1 z2
  cases e1; cases e2
  obtain ⟨i1, p1, m1, _⟩ := J.tuple ta
  obtain ⟨i2, p2, m2, _⟩ := J.tuple tb
  exact HT.cat_tup m1 m2 (fun z => n1 (p1.nil_iff.mp z)) (fun z => (n2 (p2.nil_iff.mp z)).elim)
    (fun _ => laid_tup J (p1.append p2) (by rw [List.length_append]; exact hl) (k2 n1 n2) s0.toks) (by rw [← p1.length, ← p2.length]; exact hl)
theorem call_tupF : CallR X (.type "tuple") (fun vs H Q => ∃ p ys, vs = [.ref p] ∧ ((SqL X.K H p ys ∧ Fz H ys Q) ∨ (SqT X.K H p ys ∧ Q (.ref p) H))) := by
  intro pn s0 st H0 vs us Q J rr ⟨p, ys, ev, h⟩
  rcases h with ⟨hq, k⟩ | ⟨hq, k⟩
  · subst ev
    obtain ⟨u, eu, ru⟩ := vals1 rr
    subst eu
    cases ru
    obtain ⟨its, pr, pl, hz⟩ := J.list hq
    have hn := pr.length
    refine call_tuple_list pl.isList (fun h1 kp => ?_) (by rw [List.size_toArray]; omega)
    exact laid_tup (J.kept (t' := s0.toks) kp) pr hz k s0.toks
  · exact call_tuple_of pn s0 st H0 vs us Q J rr ⟨p, ys, ev, .inr ⟨hq, k⟩⟩
def rRepF (K : PySem.W.Frag) : R2 := fun x y H Q => ∃ l k xs, x = .ref l ∧ y = .int k ∧ SqT K H l xs ∧ xs ≠ [] ∧ 2 ≤ k ∧ k ≤ 1000 ∧ xs.length ≤ 1000 ∧ Fz H (List.replicate k.toNat xs).flatten Q
theorem op_repF : OpR X (binaryOp .Mult) (rRepF X.K) := by
  intro pn s0 st H0 x y v u Q J rx ry ⟨l, k, xs, e1, e2, hT, hne, g1, g2, hz, q⟩
  subst e1 e2
  cases rx
  obtain ⟨t, et⟩ := ry
  subst et
  obtain ⟨its, r, ⟨⟨cls, dd, data, sl⟩, ho, hc, n, hd⟩, hs⟩ := J.tuple hT
  simp only at hc hd
  subst hc hd
  have hle : its.length = xs.length := r.length.symm
  have hn : its ≠ [] := fun e => hne (List.eq_nil_of_length_eq_zero (by rw [← hle, e]; rfl))
  have he : its.toArray.isEmpty = false := by cases its with
    | nil => exact absurd rfl hn
    | cons a b => rfl
  have hs0 : its.toArray.size = xs.length := by rw [List.size_toArray, hle]
  have hm : ((its.toArray.size : Nat) : Int) * k ≤ 1000000 := by
    rw [hs0]
    have : ((xs.length : Nat) : Int) * k ≤ 1000 * k := Int.mul_le_mul_of_nonneg_right (by omega) (by omega)
    omega
  have b1 : k.toNat * xs.length ≤ 1000 * 1000 := Nat.mul_le_mul (by omega) hz
  have c0 : (decide (k < -(2 ^ 63)) || decide (k ≥ 2 ^ 63)) = false := by rw [decide_eq_false (by omega), decide_eq_false (by omega)]; rfl
  have c1 : (its.toArray.isEmpty || k == 1) = false := by rw [he, Bool.false_or]; exact beq_eq_false_iff_ne.mpr (by omega)
  have c2 : (decide (k ≤ 0) || its.toArray.isEmpty) = false := by rw [he, Bool.or_false]; exact decide_eq_false (by omega)
  have c4 : Builtin.Tuple.tupleTooMany (((its.toArray.size : Nat) : Int) * k) = false := by
    unfold Builtin.Tuple.tupleTooMany; rw [sizeLine_eq]; exact decide_eq_false (by omega)
  refine wpAny_binaryOp_repeat_ref (T := "tuple") (U := "int") (by decide) ⟨_, ho, rfl⟩ (fun s' => typeIs_int s' k t) noFill_tuple_mul F.fills_int_mul F.slot_int_rmul repeat_tuple F.slot_int_index.lookup
    (call_meets F.slot_int_rmul (typeIs_int s0 k t) F.entry_int_rmul (F.args_int_rmul_2 _ _) (int_rmul_tuple k t l its.toArray n dd sl)
      ⟨ho, rfl, ⟨_, ho, rfl⟩, call_meets F.slot_tuple_mul ⟨_, ho, rfl⟩ F.entry_tuple_mul (F.args_tuple_mul_2 _ _) (tuple_mulW l its.toArray n dd sl k t c0 c1 c2 (by omega) c4 (by rw [size_rep, List.size_toArray, PyProof.Rows.lm_len_rep_flat, hle, sizeLine_eq]; omega)) ⟨ho, ?_⟩⟩)
  rw [size_rep]
  exact laid_tup J (r.rep k.toNat) (by rw [PyProof.Rows.lm_len_rep_flat, sizeLine_eq]; omega) q s0.toks
end
abbrev D := PyData
structure KK where
  P : Program
  w : World
  F : PySem.W.Frag
  T : List (Addr × Str)
instance : Coe KK PySem.W.Frag := ⟨KK.F⟩
abbrev Sg := L2.St
mutual
/-- sizes are bounded -/
def okD : D → Bool
  | .none => true
  | .bool _ => true
  | .int _ => true
  | .str x => PyData.strOk x && decide (x.length ≤ sizeLine)
  | .list xs => decide (xs.length ≤ sizeLine) && okDs xs
  | .tuple xs => decide (xs.length ≤ sizeLine) && okDs xs
  | .dict _ => false
def okDs : List D → Bool
  | [] => true
  | x :: xs => okD x && okDs xs
end
mutual
theorem canLay_of_ok : ∀ d : D, okD d = true → d.canLay0 = true
  | .none, _ => by simp only [PyData.canLay0]
  | .bool _, _ => by simp only [PyData.canLay0]
  | .int _, _ => by simp only [PyData.canLay0]
  | .str x, h => by
    rw [okD, Bool.and_eq_true] at h
    simp only [PyData.canLay0]; exact h.1
  | .list xs, h => by
    rw [okD, Bool.and_eq_true] at h
    simp only [PyData.canLay0]; exact canLays_of_ok xs h.2
  | .tuple xs, h => by
    rw [okD, Bool.and_eq_true] at h
    simp only [PyData.canLay0]; exact canLays_of_ok xs h.2
  | .dict _, h => by rw [okD] at h; cases h
theorem canLays_of_ok : ∀ ds : List D, okDs ds = true → PyData.canLayAll0 ds = true
  | [], _ => by simp only [PyData.canLayAll0]
  | d :: ds, h => by
    rw [okDs, Bool.and_eq_true] at h
    simp only [PyData.canLayAll0, canLay_of_ok d h.1, canLays_of_ok ds h.2, Bool.and_self]
end
def NT (o : HO) : Prop := ∀ ps, o ≠ .tbl ps
theorem nt_lst (xs : List V) : NT (.lst xs) := fun ps z => by cases z
theorem nt_ext (f : Heap → Prop) : NT (.ext f) := fun ps z => by cases z
theorem nt_frz (o : Obj) (u : HO) : NT (.frz o u) := fun ps z => by cases z
theorem nt_tup (xs : List V) : NT (.tup xs) := fun ps z => by cases z
def FN (F : Hp) : Prop := ∀ a o, F a = some o → NT o
theorem FN.put {F : Hp} {a : Addr} {o : HO} (h : FN F) (n : NT o) : FN (upd F a o) := fun b u e => by
  by_cases hb : b = a
  · subst hb; rw [upd_same] at e; cases e; exact n
  · rw [upd_ne hb] at e; exact h b u e
def TbK (H H' : Hp) : Prop := ∀ T, LamX.Tabs T H → LamX.Tabs T H'
theorem TbK.refl (H : Hp) : TbK H H := fun _ t => t
theorem TbK.trans {H H1 H2 : Hp} (a : TbK H H1) (b : TbK H1 H2) : TbK H H2 := fun T t => b T (a T t)
def Sub (H H' : Hp) : Prop := ∀ a o, H a = some o → H' a = some o
theorem TbK.sub {H H' : Hp} (s : Sub H H') : TbK H H' := fun T t => t.ext s
theorem Sub.refl (H : Hp) : Sub H H := fun _ _ h => h
theorem Sub.trans {H H1 H2 : Hp} (a : Sub H H1) (b : Sub H1 H2) : Sub H H2 := fun c o h => b c o (a c o h)
theorem Sub.new {H : Hp} {p : Addr} {o : HO} (h : H p = none) : Sub H (upd H p o) := fun b u e => by
  rw [upd_ne (ne_of_none e h)]; exact e
theorem Sub.up {F H : Hp} {p : Addr} {o : HO} (s : Sub F H) : Sub (upd F p o) (upd H p o) := fun b u e => by
  by_cases hb : b = p
  · subst hb; rw [upd_same] at e ⊢; exact e
  · rw [upd_ne hb] at e ⊢; exact s b u e
theorem Sub.to {F H : Hp} {p : Addr} {o : HO} (s : Sub F H) (h : H p = some o) : Sub (upd F p o) H := fun b u e => by
  by_cases hb : b = p
  · subst hb; rw [upd_same] at e; cases e; exact h
  · rw [upd_ne hb] at e; exact s b u e
theorem Sub.off {F H : Hp} {p : Addr} {o : HO} (s : Sub F H) (h : F p = none) : Sub F (upd H p o) := fun b u e => by
  rw [upd_ne (ne_of_none e h)]; exact s b u e
theorem Sub.none {F H : Hp} {p : Addr} (s : Sub F H) (h : H p = none) : F p = none := by
  cases q : F p with
  | none => rfl
  | some o => rw [s p o q] at h; cases h
section
variable {K : PySem.W.Frag} {H H' : Hp}
theorem sqL_sub (s : Sub H H') {a : Addr} {xs : List V} (h : SqL K H a xs) : SqL K H' a xs := by
  rcases h with (h | ⟨o, h⟩) | h
  · exact .inl (.inl (s _ _ h))
  · exact .inl (.inr ⟨o, s _ _ h⟩)
  · exact .inr h
theorem sqT_sub (s : Sub H H') {a : Addr} {xs : List V} (h : SqT K H a xs) : SqT K H' a xs := by
  rcases h with (h | ⟨o, h⟩) | h
  · exact .inl (.inl (s _ _ h))
  · exact .inl (.inr ⟨o, s _ _ h⟩)
  · exact .inr h
end
mutual
/-- data at a value: lists are tracked as such -/
inductive Dw (K : KK) (H : Hp) : V → D → Prop
  | non : Dw K H .non .none
  | bl (b : Bool) : Dw K H (.bl b) (.bool b)
  | int (i : Int) : Dw K H (.int i) (.int i)
  | str (x : Str) : Dw K H (.str x) (.str x)
  | lst {a : Addr} {xs : List V} {ds : List D} : H a = some (.lst xs) → DwAll K H xs ds → Dw K H (.ref a) (.list ds)
  | tup {a : Addr} {xs : List V} {ds : List D} : Tp K H a xs → DwAll K H xs ds → Dw K H (.ref a) (.tuple ds)
inductive DwAll (K : KK) (H : Hp) : List V → List D → Prop
  | nil : DwAll K H [] []
  | cons {v : V} {vs : List V} {d : D} {ds : List D} : Dw K H v d → DwAll K H vs ds → DwAll K H (v :: vs) (d :: ds)
end
section
variable {K : KK} {H H' : Hp}
mutual
theorem dp_sub (s : Sub H H') : ∀ (d : D) (v : V), Dw K H v d → Dw K H' v d
  | .none, _, h => by cases h; exact .non
  | .bool _, _, h => by cases h; exact .bl _
  | .int _, _, h => by cases h; exact .int _
  | .str _, _, h => by cases h; exact .str _
  | .list ds, _, h => by
    cases h with
    | lst a b => exact .lst (s _ _ a) (dps_sub s ds _ b)
  | .tuple ds, _, h => by
    cases h with
    | tup a b => exact .tup (a.mono s) (dps_sub s ds _ b)
  | .dict _, _, h => by cases h
theorem dps_sub (s : Sub H H') : ∀ (ds : List D) (vs : List V), DwAll K H vs ds → DwAll K H' vs ds
  | [], _, h => by cases h; exact .nil
  | d :: ds, _, h => by
    cases h with
    | cons a b => exact .cons (dp_sub s d _ a) (dps_sub s ds _ b)
end
mutual
theorem dw_dp : ∀ (d : D) (v : V), Dw K H v d → Dp K H v d
  | .none, _, h => by cases h; exact .non
  | .bool _, _, h => by cases h; exact .bl _
  | .int _, _, h => by cases h; exact .int _
  | .str _, _, h => by cases h; exact .str _
  | .list ds, _, h => by
    cases h with
    | lst a b => exact .lst (.inl (.inl a)) (dws_dps ds _ b)
  | .tuple ds, _, h => by
    cases h with
    | tup a b => exact .tup a.sq (dws_dps ds _ b)
  | .dict _, _, h => by cases h
theorem dws_dps : ∀ (ds : List D) (vs : List V), DwAll K H vs ds → DpAll K H vs ds
  | [], _, h => by cases h; exact .nil
  | d :: ds, _, h => by
    cases h with
    | cons a b => exact .cons (dw_dp d _ a) (dws_dps ds _ b)
end
end
def Dq (K : KK) (F : Hp) (v : V) (d : D) : Prop := Dw K F v d ∧ okD d = true
def Dqs (K : KK) (F : Hp) (vs : List V) (ds : List D) : Prop := DwAll K F vs ds ∧ okDs ds = true
section
variable {K : KK} {F F' H : Hp} {v : V} {vs : List V} {d : D} {ds : List D}
theorem Dq.sub (h : Dq K F v d) (s : Sub F F') : Dq K F' v d := ⟨dp_sub s _ _ h.1, h.2⟩
theorem Dqs.sub (h : Dqs K F vs ds) (s : Sub F F') : Dqs K F' vs ds := ⟨dps_sub s _ _ h.1, h.2⟩
theorem Dqs.nil : Dqs K F [] [] := ⟨.nil, rfl⟩
theorem Dqs.cons (a : Dq K F v d) (b : Dqs K F vs ds) : Dqs K F (v :: vs) (d :: ds) := ⟨.cons a.1 b.1, by rw [okDs, a.2, b.2]; rfl⟩
theorem Dqs.uncons (b : Dqs K F vs (d :: ds)) : ∃ v vs', vs = v :: vs' ∧ Dq K F v d ∧ Dqs K F vs' ds := by
  obtain ⟨h1, h2⟩ := b
  rw [okDs, Bool.and_eq_true] at h2
  cases h1 with
  | cons a b => exact ⟨_, _, rfl, ⟨a, h2.1⟩, ⟨b, h2.2⟩⟩
theorem Dqs.unnil (b : Dqs K F vs []) : vs = [] := by
  obtain ⟨h1, _⟩ := b
  cases h1; rfl
theorem Dqs.length : ∀ {ds : List D} {vs : List V}, Dqs K F vs ds → vs.length = ds.length
  | [], vs, h => by rw [h.unnil]; rfl
  | d :: ds, vs, h => by
    obtain ⟨v, vs', rfl, _, h'⟩ := h.uncons
    simp only [List.length_cons, h'.length]
theorem Dqs.append : ∀ {ds es : List D} {vs ws : List V}, Dqs K F vs ds → Dqs K F ws es → Dqs K F (vs ++ ws) (ds ++ es)
  | [], _, vs, _, h, h' => by rw [h.unnil]; exact h'
  | d :: ds, es, vs, ws, h, h' => by
    obtain ⟨v, vs', rfl, a, b⟩ := h.uncons
    exact .cons a (b.append h')
theorem Dqs.take : ∀ {ds : List D} {vs : List V} (n : Nat), Dqs K F vs ds → Dqs K F (vs.take n) (ds.take n)
  | _, _, 0, _ => by simp only [List.take_zero]; exact .nil
  | [], vs, n + 1, h => by rw [h.unnil]; exact .nil
  | d :: ds, vs, n + 1, h => by
    obtain ⟨v, vs', rfl, a, b⟩ := h.uncons
    exact .cons a (b.take n)
theorem Dqs.drop : ∀ {ds : List D} {vs : List V} (n : Nat), Dqs K F vs ds → Dqs K F (vs.drop n) (ds.drop n)
  | _, _, 0, h => h
  | [], vs, n + 1, h => by rw [h.unnil]; exact .nil
  | d :: ds, vs, n + 1, h => by
    obtain ⟨v, vs', rfl, a, b⟩ := h.uncons
    exact b.drop n
theorem Dqs.get : ∀ {ds : List D} {vs : List V} {i : Nat} {d : D}, Dqs K F vs ds → ds[i]? = some d → ∃ v, vs[i]? = some v ∧ Dq K F v d
  | [], vs, i, d, h, e => by simp at e
  | x :: ds, vs, 0, d, h, e => by
    obtain ⟨v, vs', rfl, a, b⟩ := h.uncons
    simp at e; subst e; exact ⟨v, rfl, a⟩
  | x :: ds, vs, i + 1, d, h, e => by
    obtain ⟨v, vs', rfl, a, b⟩ := h.uncons
    obtain ⟨w, h1, h2⟩ := b.get (i := i) (d := d) (by simpa using e)
    exact ⟨w, by simpa using h1, h2⟩
theorem Dqs.reverse : ∀ {ds : List D} {vs : List V}, Dqs K F vs ds → Dqs K F vs.reverse ds.reverse
  | [], vs, h => by rw [h.unnil]; exact .nil
  | x :: ds, vs, h => by
    obtain ⟨v, vs', rfl, a, b⟩ := h.uncons
    rw [List.reverse_cons, List.reverse_cons]
    exact b.reverse.append (.cons a .nil)
theorem Dqs.set : ∀ {ds : List D} {vs : List V} {v : V} {d : D} (i : Nat), Dqs K F vs ds → Dq K F v d → Dqs K F (vs.set i v) (ds.set i d)
  | [], vs, _, _, i, h, _ => by rw [h.unnil]; exact .nil
  | x :: ds, vs, _, _, 0, h, q => by
    obtain ⟨v, vs', rfl, a, b⟩ := h.uncons
    exact .cons q b
  | x :: ds, vs, _, _, i + 1, h, q => by
    obtain ⟨v, vs', rfl, a, b⟩ := h.uncons
    exact .cons a (b.set i q)
theorem Dqs.eraseIdx : ∀ {ds : List D} {vs : List V} (i : Nat), Dqs K F vs ds → Dqs K F (vs.eraseIdx i) (ds.eraseIdx i)
  | [], vs, i, h => by rw [h.unnil]; exact .nil
  | x :: ds, vs, 0, h => by
    obtain ⟨v, vs', rfl, a, b⟩ := h.uncons
    exact b
  | x :: ds, vs, i + 1, h => by
    obtain ⟨v, vs', rfl, a, b⟩ := h.uncons
    exact .cons a (b.eraseIdx i)
theorem Dqs.flatten_rep {n : Nat} (h : Dqs K F vs ds) : Dqs K F (List.replicate n vs).flatten (List.replicate n ds).flatten := by
  induction n with
  | zero => exact .nil
  | succ n ih =>
    rw [List.replicate_succ, List.replicate_succ, List.flatten_cons, List.flatten_cons]
    exact h.append ih
theorem Dq.non : Dq K F .non .none := ⟨.non, rfl⟩
theorem Dq.bl (b : Bool) : Dq K F (.bl b) (.bool b) := ⟨.bl b, rfl⟩
theorem Dq.int (i : Int) : Dq K F (.int i) (.int i) := ⟨.int i, rfl⟩
theorem Dq.tup {a : Addr} (h : Tp K F a vs) (hs : Dqs K F vs ds) (hl : ds.length ≤ sizeLine) : Dq K F (.ref a) (.tuple ds) := ⟨.tup h hs.1, by rw [okD, hs.2]; simp [hl]⟩
theorem Dq.lst {a : Addr} (h : F a = some (.lst vs)) (hs : Dqs K F vs ds) (hl : ds.length ≤ sizeLine) : Dq K F (.ref a) (.list ds) := ⟨.lst h hs.1, by rw [okD, hs.2]; simp [hl]⟩
theorem Dq.unint {i : Int} (h : Dq K F v (.int i)) : v = .int i := by obtain ⟨h, _⟩ := h; cases h; rfl
theorem Dq.unbl {b : Bool} (h : Dq K F v (.bool b)) : v = .bl b := by obtain ⟨h, _⟩ := h; cases h; rfl
theorem Dq.unstr {x : Str} (h : Dq K F v (.str x)) : v = .str x ∧ PyData.strOk x = true ∧ x.length ≤ sizeLine := by
  obtain ⟨h, h2⟩ := h; cases h
  rw [okD, Bool.and_eq_true] at h2
  exact ⟨rfl, h2.1, of_decide_eq_true h2.2⟩
theorem Dq.unnon (h : Dq K F v .none) : v = .non := by obtain ⟨h, _⟩ := h; cases h; rfl
theorem Dq.untup (h : Dq K F v (.tuple ds)) : ∃ a vs, v = .ref a ∧ Tp K F a vs ∧ Dqs K F vs ds ∧ ds.length ≤ sizeLine := by
  obtain ⟨h, h2⟩ := h
  rw [okD, Bool.and_eq_true] at h2
  cases h with
  | tup x y => exact ⟨_, _, rfl, x, ⟨y, h2.2⟩, of_decide_eq_true h2.1⟩
theorem Dq.unlst (h : Dq K F v (.list ds)) : ∃ a vs, v = .ref a ∧ F a = some (.lst vs) ∧ Dqs K F vs ds ∧ ds.length ≤ sizeLine := by
  obtain ⟨h, h2⟩ := h
  rw [okD, Bool.and_eq_true] at h2
  cases h with
  | lst x y => exact ⟨_, _, rfl, x, ⟨y, h2.2⟩, of_decide_eq_true h2.1⟩
theorem Dq.undict {kvs} (h : Dq K F v (.dict kvs)) : False := by obtain ⟨h, _⟩ := h; cases h
end
inductive Ct where
  | l (ds : List D)
  | m (kvs : List (D × D))
  | s (ds : List D)
  | n (kvs : List (Int × D))
inductive Sl where
  | un
  | v (d : D)
  | o (b : Bool) (c : Ct)
  | k (b : Bool) (c : Ct)
  | r (ns : List Int)
abbrev En := List Sl
inductive XV where
  | v (d : D)
  | sl (i : Nat)
  | fr (c : Ct)
def DxO (P : Program) (w : World) (a : Addr) (xs : List (List L2.Key × Addr × Value)) : HO :=
  .ext fun h => xs.length ≤ sizeLine ∧ (a == sysModules) = false ∧ ∃ o es ep, h.get? a = some o ∧ o.ExactDict ∧ o.data = .dict es ep ∧ es.toList = xs.map (entryOfKey (tupleKind (mixKind P w))) ∧ (xs.map (·.1)).Nodup
abbrev KX (K : PySem.W.Frag) (H : Hp) (kvs : List (List L2.Key × V)) (xs : List (List L2.Key × Addr × Value)) : Prop :=
  Paired (fun (p : List L2.Key × V) (q : List L2.Key × Addr × Value) => p.1 = q.1 ∧ Tp K H q.2.1 (p.1.map kV) ∧ RelV p.2 q.2.2) kvs xs
def DX (K : PySem.W.Frag) (P : Program) (w : World) (F H : Hp) (a : Addr) (kvs : List (List L2.Key × V)) : Prop := ∃ xs, H a = some (DxO P w a xs) ∧ KX K F kvs xs
def kD : Key → D
  | .inl i => .int i
  | .inr x => .str x
def CtR (K : KK) (F H : Hp) (a : Addr) : Ct → Prop
  | .l ds => ∃ vs, H a = some (.lst vs) ∧ Dqs K F vs ds ∧ ds.length ≤ sizeLine
  | .m kvs => ∃ kk : List (List Key × V), DX K.F K.P K.w F H a kk ∧ Paired (fun (p : List Key × V) (q : D × D) => q.1 = .tuple (p.1.map kD) ∧ Dq K F p.2 q.2) kk kvs
  | .s ds => ∃ L : List (Addr × List Int), H a = some (SetTO K.P K.w a L) ∧ (∀ p ∈ L, Tp K.F F p.1 (p.2.map V.int)) ∧ (L.map fun p => PyData.tuple (p.2.map PyData.int)).Perm ds
  | .n kvs => ∃ kk : List (Key × V), H a = some (.dK kk) ∧ Paired (fun (p : Key × V) (q : Int × D) => p.1 = .inl q.1 ∧ Dq K F p.2 q.2) kk kvs
theorem Paired.mapR {α β : Type} {P Q : α → β → Prop} : ∀ {l₁ : List α} {l₂ : List β}, Paired P l₁ l₂ → (∀ a b, P a b → Q a b) → Paired Q l₁ l₂
  | _, _, .nil, _ => .nil
  | _, _, .cons r t, f => .cons (f _ _ r) (Paired.mapR t f)
theorem CtR.mono {K : KK} {F F' H H' : Hp} {a : Addr} {c : Ct} (h : CtR K F H a c) (s : Sub F F') (e : ∀ o, H a = some o → H' a = some o) : CtR K F' H' a c := by
  cases c with
  | l ds => obtain ⟨vs, h1, h2, h3⟩ := h; exact ⟨vs, e _ h1, h2.sub s, h3⟩
  | m kvs =>
    obtain ⟨kk, ⟨xs, h3, h4⟩, h2⟩ := h
    exact ⟨kk, ⟨xs, e _ h3, Paired.mapR h4 fun p q z => ⟨z.1, Tp.mono s z.2.1, z.2.2⟩⟩, Paired.mapR h2 fun p q z => ⟨z.1, z.2.sub s⟩⟩
  | s ds =>
    obtain ⟨L, h1, h2, h3⟩ := h
    exact ⟨L, e _ h1, fun p hp => Tp.mono s (h2 p hp), h3⟩
  | n kvs =>
    obtain ⟨kk, h1, h2⟩ := h
    exact ⟨kk, e _ h1, Paired.mapR h2 fun p q z => ⟨z.1, z.2.sub s⟩⟩
theorem CtR.some {K : KK} {F H : Hp} {a : Addr} {c : Ct} (h : CtR K F H a c) : ∃ o, H a = some o := by
  cases c with
  | l ds => obtain ⟨vs, h1, _⟩ := h; exact ⟨_, h1⟩
  | m kvs =>
    obtain ⟨kk, ⟨xs, h1, _⟩, _⟩ := h
    exact ⟨_, h1⟩
  | s ds =>
    obtain ⟨L, h1, _⟩ := h
    exact ⟨_, h1⟩
  | n kvs =>
    obtain ⟨kk, h1, _⟩ := h
    exact ⟨_, h1⟩
def OpenAt (ρ : En) (σ : Sg) (a : Addr) : Prop := ∃ (i : Nat) (b : Bool) (c : Ct), ρ[i]? = some (.o b c) ∧ σ[i]? = some (some (.ref a))
def HeldAt (ρ : En) (σ : Sg) (i : Nat) (a : Addr) : Prop := (∃ (b : Bool) (c : Ct), ρ[i]? = some (.o b c) ∨ ρ[i]? = some (.k b c)) ∧ σ[i]? = some (some (.ref a))
structure Gd (K : KK) (ρ : En) (σ : Sg) (H F : Hp) : Prop where
  len : σ.length = ρ.length
  sub : Sub F H
  val : ∀ (i : Nat) (d : D), ρ[i]? = some (.v d) → ∃ v, σ[i]? = some (some v) ∧ Dq K F v d
  scr : ∀ (i : Nat) (ns : List Int), ρ[i]? = some (.r ns) → ∃ a, σ[i]? = some (some (.ref a)) ∧ SqL K F a (ns.map V.int) ∧ ns.length ≤ sizeLine
  opn : ∀ (i : Nat) (b : Bool) (c : Ct), (ρ[i]? = some (.o b c) ∨ ρ[i]? = some (.k b c)) → ∃ a, σ[i]? = some (some (.ref a)) ∧ F a = none ∧ CtR K F H a c
  inj : ∀ i j a, HeldAt ρ σ i a → HeldAt ρ σ j a → i = j
  tab : LamX.Tabs K.T H ∧ FN F
structure Ext (ρ : En) (σ : Sg) (H F : Hp) (ρ' : En) (σ' : Sg) (H' F' : Hp) : Prop where
  fz : Sub F F'
  keep : ∀ a o, H a = some o → NT o → ¬ OpenAt ρ σ a → H' a = some o ∧ (F a = none → F' a = none)
  dom : ∀ a, H a ≠ none → H' a ≠ none
  opn : ∀ a, OpenAt ρ' σ' a → OpenAt ρ σ a ∨ H a = none
  bor : ∀ (i : Nat) (c : Ct), ρ[i]? = some (.o true c) → (∃ c' : Ct, ρ'[i]? = some (.o true c')) ∧ σ'[i]? = σ[i]?
  lck : ∀ (i : Nat) (b : Bool) (c : Ct), ρ[i]? = some (.k b c) → ρ'[i]? = some (.k b c) ∧ σ'[i]? = σ[i]?
  lw : ∀ (i : Nat) (b : Bool) (c : Ct), ρ'[i]? = some (.k b c) → ρ[i]? = some (.k b c)
  bw : ∀ (i : Nat) (c : Ct), ρ'[i]? = some (.o true c) → ∃ c' : Ct, ρ[i]? = some (.o true c')
theorem Ext.refl (ρ : En) (σ : Sg) (H F : Hp) : Ext ρ σ H F ρ σ H F :=
  ⟨Sub.refl F, fun _ _ h _ _ => ⟨h, fun z => z⟩, fun _ h => h, fun _ h => .inl h, fun _ _ h => ⟨⟨_, h⟩, rfl⟩, fun _ _ _ h => ⟨h, rfl⟩, fun _ _ _ h => h, fun _ c h => ⟨c, h⟩⟩
theorem Ext.trans {ρ ρ1 ρ2 : En} {σ σ1 σ2 : Sg} {H F H1 F1 H2 F2 : Hp} (x : Ext ρ σ H F ρ1 σ1 H1 F1) (y : Ext ρ1 σ1 H1 F1 ρ2 σ2 H2 F2) : Ext ρ σ H F ρ2 σ2 H2 F2 where
  fz := x.fz.trans y.fz
  keep := fun a o h nt n => by
    obtain ⟨h1, f1⟩ := x.keep a o h nt n
    have n1 : ¬ OpenAt ρ1 σ1 a := fun z => by
      rcases x.opn a z with z | z
      · exact n z
      · rw [h] at z; cases z
    obtain ⟨h2, f2⟩ := y.keep a o h1 nt n1
    exact ⟨h2, fun z => f2 (f1 z)⟩
  dom := fun a h => y.dom a (x.dom a h)
  opn := fun a h => by
    rcases y.opn a h with z | z
    · exact x.opn a z
    · refine .inr ?_
      cases q : H a with
      | none => rfl
      | some o => exact absurd z (x.dom a (by rw [q]; exact fun z => by cases z))
  bor := fun i c h => by
    obtain ⟨⟨c1, h1⟩, e1⟩ := x.bor i c h
    obtain ⟨⟨c2, h2⟩, e2⟩ := y.bor i c1 h1
    exact ⟨⟨c2, h2⟩, e2.trans e1⟩
  lck := fun i b c h => by
    obtain ⟨h1, e1⟩ := x.lck i b c h
    obtain ⟨h2, e2⟩ := y.lck i b c h1
    exact ⟨h2, e2.trans e1⟩
  lw := fun i b c h => x.lw i b c (y.lw i b c h)
  bw := fun i c h => by
    obtain ⟨c1, h1⟩ := y.bw i c h
    exact x.bw i c1 h1
theorem CtR.nt {K : KK} {F H : Hp} {a : Addr} {c : Ct} {o : HO} (h : CtR K F H a c) (e : H a = Option.some o) : NT o := by
  cases c with
  | l ds => obtain ⟨vs, h1, _⟩ := h; rw [h1] at e; cases e; exact nt_lst _
  | m kvs =>
    obtain ⟨kk, ⟨xs, h1, _⟩, _⟩ := h
    rw [h1] at e; cases e; exact nt_ext _
  | s ds =>
    obtain ⟨L, h1, _⟩ := h
    rw [h1] at e; cases e; exact nt_ext _
  | n kvs =>
    obtain ⟨kk, h1, _⟩ := h
    rw [h1] at e; cases e; exact fun ps z => by cases z
def NC (a : Addr) (o : HO) : Prop := ∀ q, o ≠ LamX.CodeO a q
theorem nc_lst (a : Addr) (xs : List V) : NC a (.lst xs) := fun q z => by unfold LamX.CodeO at z; cases z
theorem nc_dx (P : Program) (w : World) (a : Addr) (xs : List (List L2.Key × Addr × Value)) : NC a (DxO P w a xs) := fun q z => by
  unfold LamX.CodeO DxO at z
  injection z with z
  have h0 : ∃ h : Heap, ∃ oc : Obj, ∃ vs : Array Value, ∃ t : Tok, h.get? a = some oc ∧ oc.data = .fields vs ∧ vs[1]? = some (.str q t) := by
    let o : Obj := { cls := .none, data := .fields #[.none, .str q 0] }
    let g : Heap := { objs := Array.replicate a o }
    refine ⟨g.push o, o, #[.none, .str q 0], 0, ?_, rfl, rfl⟩
    have := Heap.get?_push_size (h := g) (o := o) rfl
    have e : g.objs.size = a := Array.size_replicate
    rw [e] at this
    exact this
  obtain ⟨h, hc⟩ := h0
  have hd := hc
  have e := congrFun z h
  rw [← e] at hd
  obtain ⟨_, _, o, es, ep, h1, _, h3, _⟩ := hd
  obtain ⟨oc, vs, t, g1, g2, _⟩ := hc
  rw [h1] at g1; cases g1
  rw [h3] at g2; cases g2
theorem nc_set (P : Program) (w : World) (a : Addr) (L : List (Addr × List Int)) : NC a (SetTO P w a L) := fun q z => by
  unfold LamX.CodeO SetTO at z
  injection z with z
  have h0 : ∃ h : Heap, ∃ oc : Obj, ∃ vs : Array Value, ∃ t : Tok, h.get? a = some oc ∧ oc.data = .fields vs ∧ vs[1]? = some (.str q t) := by
    let o : Obj := { cls := .none, data := .fields #[.none, .str q 0] }
    let g : Heap := { objs := Array.replicate a o }
    refine ⟨g.push o, o, #[.none, .str q 0], 0, ?_, rfl, rfl⟩
    have := Heap.get?_push_size (h := g) (o := o) rfl
    have e : g.objs.size = a := Array.size_replicate
    rw [e] at this
    exact this
  obtain ⟨h, hc⟩ := h0
  have hd := hc
  have e := congrFun z h
  rw [← e] at hd
  obtain ⟨es, ep, t2, ⟨o, h1, _, h3⟩, _⟩ := hd.ex
  obtain ⟨oc, vs, t, g1, g2, _⟩ := hc
  rw [h1] at g1; cases g1
  rw [h3] at g2; cases g2
theorem CtR.nc {K : KK} {F H : Hp} {a : Addr} {c : Ct} {o : HO} (h : CtR K F H a c) (e : H a = Option.some o) : NC a o := by
  cases c with
  | l ds => obtain ⟨vs, h1, _⟩ := h; rw [h1] at e; cases e; exact nc_lst _ _
  | m kvs =>
    obtain ⟨kk, ⟨xs, h1, _⟩, _⟩ := h
    rw [h1] at e; cases e; exact nc_dx _ _ _ _
  | s ds =>
    obtain ⟨L, h1, _⟩ := h
    rw [h1] at e; cases e; exact nc_set _ _ _ _
  | n kvs =>
    obtain ⟨kk, h1, _⟩ := h
    rw [h1] at e; cases e; exact fun q z => by unfold LamX.CodeO at z; cases z
theorem TbK.but {H H' : Hp} {a : Addr} {o : HO} (e : H a = some o) (h1 : NT o) (h2 : NC a o) (k : ∀ b u, b ≠ a → H b = some u → H' b = some u) : TbK H H' := fun T t p hp => by
  obtain ⟨ps, e1, e2, e3⟩ := t p hp
  have n1 : p.1 ≠ a := fun z => by rw [z, e] at e1; cases e1; exact h1 ps rfl
  refine ⟨ps, k _ _ n1 e1, e2, fun pos cv hc => ?_⟩
  obtain ⟨c, q1, q2⟩ := e3 pos cv hc
  have n2 : c ≠ a := fun z => by subst z; rw [e] at q2; cases q2; exact h2 _ rfl
  exact ⟨c, q1, k _ _ n2 q2⟩
theorem TbK.upd {H : Hp} {a : Addr} {o o' : HO} (e : H a = some o) (h1 : NT o) (h2 : NC a o) : TbK H (upd H a o') := TbK.but e h1 h2 fun b u n q => by rw [upd_ne n]; exact q
theorem TbK.new {H : Hp} {a : Addr} {o : HO} (h : H a = none) : TbK H (L2.upd H a o) := TbK.sub (Sub.new h)
theorem TbK.lst {H : Hp} {a : Addr} {o : HO} {xs : List V} (h : H a = some (.lst xs)) : TbK H (L2.upd H a o) := TbK.upd h (nt_lst _) (nc_lst _ _)
structure Gb where
  prog : Program
  w : World
  K0 : PySem.W.Frag
  mg : Str → Option Value
  base : Heap
  T : List (Addr × Str)
abbrev Gb.K (g : Gb) : KK := ⟨g.prog, g.w, g.K0, g.T⟩
structure Ctx where
  g : Gb
  N : List Str
  sc : Scope
  fn : Str → Bool
  calm : Bool
  lam : Option (Addr × Str)
abbrev ctxOf (T : List (Addr × Str) × Option (Addr × Str)) (X : Cx) : Ctx := ⟨⟨X.prog, X.w, X.K, X.mg, X.base, T.1⟩, X.N, X.env.scope, X.fn, X.calm, T.2⟩
def LamOk (X : Cx) (P : Addr) (q : Str) : Prop := ∃ c, X.env.code = .ref c ∧ LamX.TabB X.base X.mg c P ∧ X.env.qual ++ "<lambda>" = q
structure Rm (k : Nat) (A : Around) : Prop where
  dp : A.depth + 3 * k + 5 < recursionLimit
  un : A.units + 16 * k + 200 < cLine
structure Rl (k : Nat) (A : Around) : Prop where
  dp : A.depth + 3 * k + 7 < recursionLimit
  un : A.units + 16 * k + 212 < cLine
structure Fits (k : Nat) (c : Ctx) (X : Cx) : Prop where
  eq : ∃ T, c = ctxOf T X
  rm : Rm k X.A
  hd : X.calm = true → X.A.handled = none
  nd : X.N.Nodup
  lm : ∀ P q, c.lam = some (P, q) → LamOk X P q
  sk : ∀ P q, c.lam = some (P, q) → Rl k X.A
theorem Fits.calm {k : Nat} {c : Ctx} {X : Cx} (h : Fits k c X) (hc : c.calm = true) : X.calm = true := by
  obtain ⟨T, e⟩ := h.eq
  subst e
  exact hc
theorem Fits.room {k : Nat} {c : Ctx} {X : Cx} (h : Fits k c X) (hc : c.calm = true) : Room k X.A := ⟨h.hd (h.calm hc), h.rm.dp, h.rm.un⟩
theorem Gd.fresh {K : KK} {ρ : En} {σ : Sg} {H F : Hp} (G : Gd K ρ σ H F) {a : Addr} (h : H a = none) : ∀ i, ¬ HeldAt ρ σ i a := fun i ⟨⟨b, c, e⟩, s⟩ => by
  obtain ⟨a', h1, _, h3⟩ := G.opn i b c e
  rw [s] at h1
  cases h1
  obtain ⟨o, h4⟩ := h3.some
  rw [h] at h4; cases h4
theorem OpenAt.held {ρ : En} {σ : Sg} {a : Addr} (h : OpenAt ρ σ a) : ∃ i, HeldAt ρ σ i a := by
  obtain ⟨i, b, c, e, s⟩ := h
  exact ⟨i, ⟨b, c, .inl e⟩, s⟩
structure New (F H F' H' : Hp) : Prop where
  fz : Sub F F'
  hp : Sub H H'
  st : ∀ a, H a ≠ none → F a = none → F' a = none
  sub : Sub F' H'
  fn : FN F → FN F'
theorem New.refl {F H : Hp} (s : Sub F H) : New F H F H := ⟨Sub.refl F, Sub.refl H, fun _ _ h => h, s, fun h => h⟩
theorem New.put {F H : Hp} {p : Addr} {o : HO} (s : Sub F H) (h : H p = none) (nt : NT o := by first | exact nt_frz _ _ | exact nt_lst _ | exact nt_tup _ | exact nt_ext _) : New F H (upd F p o) (upd H p o) := by
  have hF : F p = none := s.none h
  refine ⟨Sub.new hF, Sub.new h, fun a ha hf => ?_, s.up, fun z => z.put nt⟩
  rw [upd_ne (fun e => ha (by rw [e]; exact h))]; exact hf
theorem New.open {F H : Hp} {p : Addr} {o : HO} (s : Sub F H) (h : H p = none) : New F H F (upd H p o) :=
  ⟨Sub.refl F, Sub.new h, fun _ _ q => q, s.off (s.none h), fun z => z⟩
theorem New.gd {K : KK} {ρ : En} {σ : Sg} {H F H' F' : Hp} (G : Gd K ρ σ H F) (n : New F H F' H') : Gd K ρ σ H' F' where
  len := G.len
  sub := n.sub
  val := fun i d e => by
    obtain ⟨v, h1, h2⟩ := G.val i d e
    exact ⟨v, h1, h2.sub n.fz⟩
  scr := fun i ns e => by
    obtain ⟨a, h1, h2, h3⟩ := G.scr i ns e
    exact ⟨a, h1, sqL_sub n.fz h2, h3⟩
  opn := fun i b c e => by
    obtain ⟨a, h1, h2, h3⟩ := G.opn i b c e
    obtain ⟨o, h4⟩ := h3.some
    exact ⟨a, h1, n.st a (by rw [h4]; exact fun z => by cases z) h2, h3.mono n.fz (n.hp a)⟩
  inj := G.inj
  tab := ⟨G.tab.1.ext n.hp, n.fn G.tab.2⟩
theorem New.ext {K : KK} {ρ : En} {σ : Sg} {H F H' F' : Hp} (G : Gd K ρ σ H F) (n : New F H F' H') : Ext ρ σ H F ρ σ H' F' where
  fz := n.fz
  keep := fun a o h _ _ => ⟨n.hp a o h, n.st a (by rw [h]; exact fun z => by cases z)⟩
  dom := fun a h z => by
    cases q : H a with
    | none => exact h q
    | some o => rw [n.hp a o q] at z; cases z
  opn := fun _ h => .inl h
  bor := fun i c h => ⟨⟨c, h⟩, rfl⟩
  lck := fun i b c h => ⟨h, rfl⟩
  lw := fun i b c h => h
  bw := fun i c h => ⟨c, h⟩
def Lk (K : KK) (F H : Hp) (v : V) (d : D) : Prop := Dq K F v d ∨ ∃ a vs ds, v = .ref a ∧ d = .list ds ∧ H a = some (.lst vs) ∧ Dqs K F vs ds ∧ ds.length ≤ sizeLine
section
variable {K : KK} {F H : Hp} {v : V} {d : D} {ds : List D}
theorem Lk.dp (s : Sub F H) (h : Lk K F H v d) : Dw K H v d := by
  rcases h with h | ⟨a, vs, ds, rfl, rfl, h1, h2, _⟩
  · exact dp_sub s _ _ h.1
  · exact .lst h1 (dps_sub s _ _ h2.1)
theorem Lk.ok (h : Lk K F H v d) : okD d = true := by
  rcases h with h | ⟨a, vs, ds, rfl, rfl, h1, h2, h3⟩
  · exact h.2
  · rw [okD, h2.2]; simp [h3]
theorem Lk.int {i : Int} (h : Lk K F H v (.int i)) : v = .int i := by
  rcases h with h | ⟨_, _, _, _, h, _⟩
  · exact h.unint
  · cases h
theorem Lk.bl {b : Bool} (h : Lk K F H v (.bool b)) : v = .bl b := by
  rcases h with h | ⟨_, _, _, _, h, _⟩
  · exact h.unbl
  · cases h
theorem Lk.str {x : Str} (h : Lk K F H v (.str x)) : v = .str x ∧ PyData.strOk x = true ∧ x.length ≤ sizeLine := by
  rcases h with h | ⟨_, _, _, _, h, _⟩
  · exact h.unstr
  · cases h
theorem Lk.non (h : Lk K F H v .none) : v = .non := by
  rcases h with h | ⟨_, _, _, _, h, _⟩
  · exact h.unnon
  · cases h
theorem Lk.tupP (s : Sub F H) (h : Lk K F H v (.tuple ds)) : ∃ a vs, v = .ref a ∧ Tp K H a vs ∧ Dqs K F vs ds ∧ ds.length ≤ sizeLine ∧ Dq K F v (.tuple ds) := by
  rcases h with h | ⟨_, _, _, _, h, _⟩
  · obtain ⟨a, vs, e, h1, h2, h3⟩ := h.untup
    exact ⟨a, vs, e, h1.mono s, h2, h3, h⟩
  · cases h
theorem Lk.tup (s : Sub F H) (h : Lk K F H v (.tuple ds)) : ∃ a vs, v = .ref a ∧ SqT K H a vs ∧ Dqs K F vs ds ∧ ds.length ≤ sizeLine ∧ Dq K F v (.tuple ds) := by
  obtain ⟨a, vs, e, h1, r⟩ := h.tupP s
  exact ⟨a, vs, e, h1.sq, r⟩
theorem Lk.lst (s : Sub F H) (h : Lk K F H v (.list ds)) : ∃ a vs, v = .ref a ∧ H a = some (.lst vs) ∧ Dqs K F vs ds ∧ ds.length ≤ sizeLine := by
  rcases h with h | ⟨a, vs, ds', e, h, h1, h2, h3⟩
  · obtain ⟨a, vs, e, h1, h2, h3⟩ := h.unlst
    exact ⟨a, vs, e, s _ _ h1, h2, h3⟩
  · cases h
    exact ⟨a, vs, e, h1, h2, h3⟩
end
abbrev Ex := En → Option (XV × En)
def XR (K : KK) (H0 : Hp) (ρ : En) (σ : Sg) (H F : Hp) (v : V) : XV → Prop
  | .v d => Dq K F v d
  | .sl i => σ[i]? = some (some v)
  | .fr c => ∃ a, v = .ref a ∧ H0 a = none ∧ F a = none ∧ CtR K F H a c ∧ ∀ i, ¬ HeldAt ρ σ i a
def SndE (K : KK) (t : TE) (f : Ex) : Prop :=
  ∀ (ρ : En) (σ : Sg) (H F : Hp) (Q : VK) (x : XV) (ρ' : En), Gd K ρ σ H F → f ρ = some (x, ρ') →
    (∀ v H' F', Gd K ρ' σ H' F' → Ext ρ σ H F ρ' σ H' F' → XR K H ρ' σ H' F' v x → Q v H') → t σ H Q
structure SE (k : Nat) (c : Ctx) (e : Expr) (f : Ex) : Prop where
  ex : ∃ t, (∀ X, Fits k c X → PE X e t) ∧ SndE c.g.K t f
def ZR (K : KK) (H H' F' : Hp) (v : V) : XV → Prop
  | .v d => Dq K F' v d
  | .sl _ => False
  | .fr c => ∃ a, v = .ref a ∧ H a = none ∧ F' a = none ∧ CtR K F' H' a c
theorem ZR.xr {K : KK} {H0 H H' F F' : Hp} {v : V} {ρ : En} {σ : Sg} {x : XV} (G : Gd K ρ σ H F) (h0 : ∀ a, H a = none → H0 a = none) (z : ZR K H H' F' v x) : XR K H0 ρ σ H' F' v x := by
  cases x with
  | v d => exact z
  | sl i => exact z.elim
  | fr c =>
    obtain ⟨a, h1, h2, h3, h4⟩ := z
    exact ⟨a, h1, h0 a h2, h3, h4, G.fresh h2⟩
def XV.stl : XV → XV
  | .fr (.l ds) => .v (.list ds)
  | x => x
def stl (f : Ex) : Ex := fun ρ => (f ρ).map fun p => (p.1.stl, p.2)
theorem stl_some {f : Ex} {ρ ρ' : En} {x : XV} (h : stl f ρ = some (x, ρ')) : ∃ y, f ρ = some (y, ρ') ∧ x = y.stl := by
  unfold stl at h
  cases q : f ρ with
  | none => rw [q] at h; cases h
  | some p =>
    rw [q] at h
    obtain ⟨y, r⟩ := p
    cases h
    exact ⟨y, rfl, rfl⟩
theorem SndE.stl {K : KK} {t : TE} {f : Ex} (h : SndE K t f) : SndE K t (stl f) := by
  intro ρ σ H F Q x ρ' G e q
  obtain ⟨y, e1, rfl⟩ := stl_some e
  refine h ρ σ H F Q y ρ' G e1 fun v H' F' G' E' z => ?_
  cases y with
  | v d => exact q v H' F' G' E' z
  | sl i => exact q v H' F' G' E' z
  | fr c =>
    cases c with
    | m kvs => exact q v H' F' G' E' z
    | s ds => exact q v H' F' G' E' z
    | n kvs => exact q v H' F' G' E' z
    | l ds =>
      obtain ⟨a, rfl, h0, hF, ⟨vs, h1, h2, h3⟩, hn⟩ := z
      have sF : Sub F' (upd F' a (.lst vs)) := Sub.new hF
      refine q (.ref a) H' (upd F' a (.lst vs)) ⟨G'.len, G'.sub.to h1, fun i d e => ?_, fun i ns e => ?_, fun i b c e => ?_, G'.inj, G'.tab.1, G'.tab.2.put (nt_lst _)⟩ ⟨E'.fz.trans sF, fun b o e nt n => ?_, E'.dom, E'.opn, E'.bor, E'.lck, E'.lw, E'.bw⟩ ?_
      · obtain ⟨w, q1, q2⟩ := G'.val i d e
        exact ⟨w, q1, q2.sub sF⟩
      · obtain ⟨w, q1, q2, q3⟩ := G'.scr i ns e
        exact ⟨w, q1, sqL_sub sF q2, q3⟩
      · obtain ⟨b', q1, q2, q3⟩ := G'.opn i b c e
        have hb : b' ≠ a := fun z => hn i ⟨⟨b, c, e⟩, by rw [q1, z]⟩
        exact ⟨b', q1, by rw [upd_ne hb]; exact q2, q3.mono sF fun _ z => z⟩
      · obtain ⟨k1, k2⟩ := E'.keep b o e nt n
        refine ⟨k1, fun z => ?_⟩
        have hb : b ≠ a := fun y => by rw [y, h0] at e; cases e
        rw [upd_ne hb]; exact k2 z
      · exact Dq.lst upd_same (h2.sub sF) h3
def look (ρ : En) : XV → Option D
  | .v d => some d
  | .sl i => match ρ[i]? with
    | some (.v d) => some d
    | some (.o _ (.l ds)) => some (.list ds)
    | some (.k _ (.l ds)) => some (.list ds)
    | _ => none
  | .fr (.l ds) => some (.list ds)
  | .fr _ => none
theorem look_ok {K : KK} {H0 H F : Hp} {ρ : En} {σ : Sg} {v : V} {x : XV} {d : D} (G : Gd K ρ σ H F) (z : XR K H0 ρ σ H F v x) (h : look ρ x = some d) : Lk K F H v d := by
  cases x with
  | v e => simp only [look, Option.some.injEq] at h; subst h; exact .inl z
  | sl i =>
    have z : σ[i]? = some (some v) := z
    simp only [look] at h
    split at h
    · rename_i e q
      cases h
      obtain ⟨w, h1, h2⟩ := G.val i _ q
      rw [z] at h1; cases h1
      exact .inl h2
    · rename_i b ds q
      cases h
      obtain ⟨a, h1, _, vs, h3, h4, h5⟩ := G.opn i _ _ (.inl q)
      rw [z] at h1; cases h1
      exact .inr ⟨a, vs, ds, rfl, rfl, h3, h4, h5⟩
    · rename_i b ds q
      cases h
      obtain ⟨a, h1, _, vs, h3, h4, h5⟩ := G.opn i _ _ (.inr q)
      rw [z] at h1; cases h1
      exact .inr ⟨a, vs, ds, rfl, rfl, h3, h4, h5⟩
    · cases h
  | fr c =>
    cases c with
    | l ds =>
      simp only [look, Option.some.injEq] at h; subst h
      obtain ⟨a, rfl, _, _, ⟨vs, h3, h4, h5⟩, _⟩ := z
      exact .inr ⟨a, vs, ds, rfl, rfl, h3, h4, h5⟩
    | m _ => cases h
    | s _ => cases h
    | n _ => cases h
theorem XR.later {K : KK} {H0 H F H' F' : Hp} {ρ ρ' : En} {σ : Sg} {v : V} {x : XV} (z : XR K H0 ρ σ H F v x) (E : Ext ρ σ H F ρ' σ H' F') (h : ∀ c, x ≠ .fr c) : XR K H0 ρ' σ H' F' v x := by
  cases x with
  | v d => exact z.sub E.fz
  | sl i => exact z
  | fr c => exact absurd rfl (h c)
theorem look_fr {ρ : En} {x : XV} {d : D} {y : XV} (e : x = y.stl) (h : look ρ x = some d) : ∀ c, x ≠ .fr c := fun c z => by
  subst e
  cases y with
  | v _ => cases z
  | sl _ => cases z
  | fr c' =>
    cases c' with
    | l _ => cases z
    | m _ => cases h
    | s _ => cases h
    | n _ => cases h
def xv (i : Nat) : Ex := fun ρ => match ρ[i]? with
  | some (.v d) => some (.v d, ρ)
  | some (.o _ _) => some (.sl i, ρ)
  | some (.k _ _) => some (.sl i, ρ)
  | some (.r _) => some (.sl i, ρ)
  | _ => none
def xc (d : D) : Ex := fun ρ => some (.v d, ρ)
section
variable {k : Nat} {c : Ctx}
def visB (sc : Scope) (x : Str) : Bool := match sc.names.lookup x with
  | some .local => true
  | some .cell => true
  | some .free => true
  | _ => false
theorem vis_of {sc : Scope} {x : Str} (h : visB sc x = true) : Vis sc x := by
  unfold visB at h
  unfold Vis
  split at h <;> simp_all
theorem se_v (i : Nat) {x : Str} {pos : Pos} (hN : c.N[i]? = some x) (hv : Vis c.sc x) (hd : (x == ("__debug__" : Str)) = false := by decide) (hcd : (x == ("__classdict__" : Str)) = false := by decide) : SE k c (.Name x pos) (xv i) := by
  refine ⟨tVar i, fun X hX => ?_, ?_⟩
  · obtain ⟨⟨TT0, rfl⟩, _⟩ := hX
    exact pe_var hN hv hd hcd
  · intro ρ σ H F Q x ρ' G e q
    unfold xv at e
    split at e
    · rename_i d h
      cases e
      obtain ⟨v, h1, h2⟩ := G.val i d h
      exact ⟨v, h1, q v H F G (Ext.refl ..) h2⟩
    · rename_i b ct h
      cases e
      obtain ⟨a, h1, h2, h3⟩ := G.opn i b ct (.inl h)
      exact ⟨_, h1, q _ H F G (Ext.refl ..) h1⟩
    · rename_i b ct h
      cases e
      obtain ⟨a, h1, h2, h3⟩ := G.opn i b ct (.inr h)
      exact ⟨_, h1, q _ H F G (Ext.refl ..) h1⟩
    · rename_i ns h
      cases e
      obtain ⟨a, h1, h2, h3⟩ := G.scr i ns h
      exact ⟨_, h1, q _ H F G (Ext.refl ..) h1⟩
    · cases e
theorem snd_c {K : KK} {v : V} {d : D} (h : ∀ F, Dq K F v d) : SndE K (tC v) (xc d) := by
  intro ρ σ H F Q x ρ' G e q
  cases e
  exact q v H F G (Ext.refl ..) (h F)
theorem se_int {i : Int} {j pos} : SE k c (.Constant (.int i) j pos) (xc (.int i)) := ⟨_, fun _ _ => pe_int, snd_c fun _ => Dq.int i⟩
theorem se_bl {b : Bool} {j pos} : SE k c (.Constant (.bool b) j pos) (xc (.bool b)) := ⟨_, fun _ _ => pe_bl, snd_c fun _ => Dq.bl b⟩
end
def Op2 (K : KK) (r : R2) (g : D → D → Option XV) : Prop :=
  ∀ (F H : Hp) (x y : V) (d e : D) (z : XV) (Q : VK), Sub F H → Lk K F H x d → Lk K F H y e → g d e = some z → (∀ v H' F', New F H F' H' → ZR K H H' F' v z → Q v H') → r x y H Q
def x2 (g : D → D → Option XV) (f1 f2 : Ex) : Ex := fun ρ => (stl f1 ρ).bind fun p => (stl f2 p.2).bind fun q => (look q.2 p.1).bind fun d => (look q.2 q.1).bind fun e => (g d e).map fun z => (z, q.2)
theorem snd_2 {K : KK} {r : R2} {g : D → D → Option XV} {ta tb : TE} {f1 f2 : Ex} (o : Op2 K r g) (h1 : SndE K ta f1) (h2 : SndE K tb f2) : SndE K (tOp r ta tb) (x2 g f1 f2) := by
  intro ρ σ H F Q x ρ' G e q
  unfold x2 at e
  rw [Option.bind_eq_some_iff] at e
  obtain ⟨⟨x1, ρ1⟩, e1, e⟩ := e
  rw [Option.bind_eq_some_iff] at e
  obtain ⟨⟨y1, ρ2⟩, e2, e⟩ := e
  rw [Option.bind_eq_some_iff] at e
  obtain ⟨d1, l1, e⟩ := e
  rw [Option.bind_eq_some_iff] at e
  obtain ⟨d2, l2, e⟩ := e
  rw [Option.map_eq_some_iff] at e
  obtain ⟨z, e3, e⟩ := e
  cases e
  refine h1.stl ρ σ H F _ x1 ρ1 G e1 fun v1 H1 F1 G1 E1 r1 => ?_
  refine h2.stl ρ1 σ H1 F1 _ y1 ρ2 G1 e2 fun v2 H2 F2 G2 E2 r2 => ?_
  obtain ⟨y0, _, es⟩ := stl_some e1
  have r1' := r1.later E2 (look_fr es l1)
  refine o F2 H2 v1 v2 d1 d2 _ Q G2.sub (look_ok G2 r1' l1) (look_ok G2 r2 l2) e3 fun v H' F' n zr => ?_
  have E12 := E1.trans E2
  refine q v H' F' (n.gd G2) (E12.trans (n.ext G2)) (zr.xr G2 fun a ha => ?_)
  cases hq : H a with
  | none => rfl
  | some o => exact absurd ha (E12.dom a (by rw [hq]; exact fun z => by cases z))
section
variable {k : Nat} {c : Ctx} {a b : Expr} {f1 f2 : Ex} {pos : Pos}
theorem se_bin {op : Operator} {r : R2} {g : D → D → Option XV} (ho : ∀ X, Fits k c X → OpR X (binaryOp op) r) (o : Op2 c.g.K r g) (h1 : SE k c a f1) (h2 : SE k c b f2) : SE k c (.BinOp a op b pos) (x2 g f1 f2) := by
  obtain ⟨⟨t1, p1, s1⟩⟩ := h1
  obtain ⟨⟨t2, p2, s2⟩⟩ := h2
  exact ⟨_, fun X hX => pe_op (ho X hX) (p1 X hX) (p2 X hX), snd_2 o s1 s2⟩
theorem se_cmp {op : CmpOp} {r : R2} {g : D → D → Option XV} (ho : ∀ X, Fits k c X → OpR X (compareOp op) r) (o : Op2 c.g.K r g) (h1 : SE k c a f1) (h2 : SE k c b f2) (hm : behindInMarks op b = false) : SE k c (.Compare a [op] [b] pos) (x2 g f1 f2) := by
  obtain ⟨⟨t1, p1, s1⟩⟩ := h1
  obtain ⟨⟨t2, p2, s2⟩⟩ := h2
  exact ⟨_, fun X hX => pe_cmpR (ho X hX) (p1 X hX) (p2 X hX) hm, snd_2 o s1 s2⟩
end
theorem Op2.or {K : KK} {r r' : R2} {g g' : D → D → Option XV} (h : Op2 K r g) (h' : Op2 K r' g') : Op2 K (fun x y H Q => r x y H Q ∨ r' x y H Q) (fun d e => (g d e).or (g' d e)) := by
  intro F H x y d e z Q s l1 l2 hg q
  cases hq : g d e with
  | some z' =>
    simp only [hq, Option.some_or] at hg
    cases hg
    exact .inl (h F H x y d e _ Q s l1 l2 hq q)
  | none =>
    simp only [hq, Option.none_or] at hg
    exact .inr (h' F H x y d e _ Q s l1 l2 hg q)
section
variable {K : KK}
theorem Op2.imp {r : R2} {g g' : D → D → Option XV} (h : Op2 K r g) (i : ∀ d e z, g' d e = some z → g d e = some z) : Op2 K r g' :=
  fun F H x y d e z Q s l1 l2 hg q => h F H x y d e z Q s l1 l2 (i _ _ _ hg) q
def gI (c : Int → Int → Bool) (f : Int → Int → D) : D → D → Option XV
  | .int a, .int b => if c a b then some (.v (f a b)) else none
  | _, _ => none
theorem o_int {C : Int → Int → Prop} {c : Int → Int → Bool} {f : Int → Int → Int} (hc : ∀ a b, c a b = true → C a b) : Op2 K (rI C fun i j => .int (f i j)) (gI c fun i j => .int (f i j)) := by
  intro F H x y d e z Q s l1 l2 hg q
  unfold gI at hg
  split at hg
  · rename_i a b
    split at hg
    · rename_i h
      cases hg
      exact ⟨a, b, l1.int, l2.int, hc a b h, q _ H F (New.refl s) (Dq.int _)⟩
    · cases hg
  · cases hg
theorem o_int0 {f : Int → Int → Int} : Op2 K (rI0 fun i j => .int (f i j)) (gI (fun _ _ => true) fun i j => .int (f i j)) := by
  intro F H x y d e z Q s l1 l2 hg q
  unfold gI at hg
  split at hg
  · rename_i a b
    simp only [if_true] at hg
    cases hg
    exact ⟨a, b, l1.int, l2.int, q _ H F (New.refl s) (Dq.int _)⟩
  · cases hg
theorem o_cmp0 {f : Int → Int → Bool} : Op2 K (rI0 fun i j => .bl (f i j)) (gI (fun _ _ => true) fun i j => .bool (f i j)) := by
  intro F H x y d e z Q s l1 l2 hg q
  unfold gI at hg
  split at hg
  · rename_i a b
    simp only [if_true] at hg
    cases hg
    exact ⟨a, b, l1.int, l2.int, q _ H F (New.refl s) (Dq.bl _)⟩
  · cases hg
theorem strOk_app {a b : Str} (h1 : PyData.strOk a = true) (h2 : PyData.strOk b = true) : PyData.strOk (a ++ b) = true := by
  unfold PyData.strOk at *
  show (a.cps ++ b.cps).all _ = true
  rw [Array.all_append, h1, h2]; rfl
theorem len_app (a b : Str) : (a ++ b).length = a.length + b.length := by
  show (a.cps ++ b.cps).size = a.cps.size + b.cps.size
  exact Array.size_append
def gAddS : D → D → Option XV
  | .str a, .str b => if a.length + b.length ≤ sizeLine then some (.v (.str (a ++ b))) else none
  | _, _ => none
theorem o_addS : Op2 K (fun x y H Q => ∃ i j, x = .str i ∧ y = .str j ∧ i.length + j.length ≤ sizeLine ∧ Q (.str (i ++ j)) H) gAddS := by
  intro F H x y d e z Q s l1 l2 hg q
  unfold gAddS at hg
  split at hg
  · rename_i a b
    split at hg
    · rename_i h
      cases hg
      obtain ⟨e1, o1, _⟩ := l1.str
      obtain ⟨e2, o2, _⟩ := l2.str
      refine ⟨a, b, e1, e2, h, q _ H F (New.refl s) ⟨.str _, ?_⟩⟩
      rw [okD, strOk_app o1 o2, len_app]; simp [h]
    · cases hg
  · cases hg
def gAddT : D → D → Option XV
  | .tuple a, .tuple b => if a.length + b.length ≤ sizeLine then some (.v (.tuple (a ++ b))) else none
  | _, _ => none
theorem o_addT : Op2 K (rCatF K) gAddT := by
  intro F H x y d e z Q s l1 l2 hg q
  unfold gAddT at hg
  split at hg
  · rename_i as bs
    split at hg
    · rename_i hz
      cases hg
      obtain ⟨a, vs, rfl, h1, h2, h3, q1⟩ := l1.tup s
      obtain ⟨b, ws, rfl, h1', h2', h3', q2⟩ := l2.tup s
      have e1 := h2.length
      have e2 := h2'.length
      refine ⟨a, b, vs, ws, rfl, rfl, h1, h1', by omega, fun hx => ?_, fun hx hy => ?_, fun hx hy p o hp ho => ?_⟩
      · subst hx
        have : as = [] := by cases as with | nil => rfl | cons _ _ => simp at e1
        subst this
        exact q _ H F (New.refl s) q2
      · subst hy
        have : bs = [] := by cases bs with | nil => rfl | cons _ _ => simp at e2
        subst this
        exact q _ H F (New.refl s) (by simpa [ZR] using q1)
      · refine q _ _ _ (New.put (o := .frz o (.tup (vs ++ ws))) s hp) ?_
        have sf : Sub F (upd F p (.frz o (.tup (vs ++ ws)))) := Sub.new (s.none hp)
        exact Dq.tup (.at ho) ((h2.append h2').sub sf) (by rw [List.length_append]; exact hz)
    · cases hg
  · cases hg
def gAddL : D → D → Option XV
  | .list a, .list b => if a.length + b.length ≤ sizeLine then some (.fr (.l (a ++ b))) else none
  | _, _ => none
theorem o_addL : Op2 K rCat gAddL := by
  intro F H x y d e z Q s l1 l2 hg q
  unfold gAddL at hg
  split at hg
  · rename_i as bs
    split at hg
    · rename_i hz
      cases hg
      obtain ⟨a, vs, rfl, h1, h2, h3⟩ := l1.lst s
      obtain ⟨b, ws, rfl, h1', h2', h3'⟩ := l2.lst s
      have e1 := h2.length
      have e2 := h2'.length
      refine ⟨a, b, vs, ws, rfl, rfl, h1, h1', by omega, fun p hp => ?_⟩
      exact q _ _ _ (New.open s hp) ⟨p, rfl, hp, s.none hp, vs ++ ws, upd_same, h2.append h2', by rw [List.length_append]; exact hz⟩
    · cases hg
  · cases hg
def gAdd : D → D → Option XV := fun d e => (((gI (fun _ _ => true) fun i j => .int (i + j)) d e).or (gAddS d e)).or ((gAddT d e).or (gAddL d e))
def cMul (i j : Int) : Bool := decide (i.natAbs < 2 ^ 64) || decide (j.natAbs < 2 ^ 64)
def gMulL : D → D → Option XV
  | .list a, .int k => if k.natAbs < 2 ^ 62 ∧ a.length * k.toNat ≤ sizeLine then some (.fr (.l (List.replicate k.toNat a).flatten)) else none
  | _, _ => none
theorem len_flat {α : Type} (xs : List α) (n : Nat) : (List.replicate n xs).flatten.length = xs.length * n := by
  induction n with
  | zero => simp
  | succ n ih => rw [List.replicate_succ, List.flatten_cons, List.length_append, ih, Nat.mul_succ, Nat.add_comm]
theorem o_mulL : Op2 K rRep gMulL := by
  intro F H x y d e z Q s l1 l2 hg q
  unfold gMulL at hg
  split at hg
  · rename_i as k
    split at hg
    · rename_i hz
      obtain ⟨z1, z3⟩ := hz
      cases hg
      obtain ⟨a, vs, rfl, h1, h2, h3⟩ := l1.lst s
      have e1 := h2.length
      refine ⟨a, k, vs, rfl, l2.int, h1, by omega, by omega, by rw [e1]; exact z3, fun p hp => ?_⟩
      exact q _ _ _ (New.open s hp) ⟨p, rfl, hp, s.none hp, _, upd_same, h2.flatten_rep, by rw [len_flat]; exact z3⟩
    · cases hg
  · cases hg
def gMulT : D → D → Option XV
  | .tuple a, .int k => if a ≠ [] ∧ 2 ≤ k ∧ k ≤ 1000 ∧ a.length ≤ 1000 then some (.v (.tuple (List.replicate k.toNat a).flatten)) else none
  | _, _ => none
theorem o_mulT : Op2 K (rRepF K) gMulT := by
  intro F H x y d e z Q s l1 l2 hg q
  unfold gMulT at hg
  split at hg
  · rename_i as k
    split at hg
    · rename_i hz
      obtain ⟨z0, z1, z2, z3⟩ := hz
      cases hg
      obtain ⟨a, vs, rfl, h1, h2, h3, _⟩ := l1.tup s
      have e1 := h2.length
      refine ⟨a, k, vs, rfl, l2.int, h1, fun z => z0 (by subst z; cases as with | nil => rfl | cons _ _ => simp at e1), z1, z2, by omega, fun p o hp ho => ?_⟩
      refine q _ _ _ (New.put (o := .frz o (.tup (List.replicate k.toNat vs).flatten)) s hp) ?_
      have sf : Sub F (upd F p (.frz o (.tup (List.replicate k.toNat vs).flatten))) := Sub.new (s.none hp)
      refine Dq.tup (.at ho) (h2.flatten_rep.sub sf) ?_
      rw [len_flat, sizeLine_eq]
      have : as.length * k.toNat ≤ 1000 * 1000 := Nat.mul_le_mul z3 (by omega)
      omega
    · cases hg
  · cases hg
def gMul : D → D → Option XV := fun d e => ((gI cMul fun i j => .int (i * j)) d e).or ((gMulL d e).or (gMulT d e))
def gSub : D → D → Option XV := gI (fun _ _ => true) fun i j => .int (i - j)
def gDiv : D → D → Option XV := gI (fun _ j => decide (0 < j) && decide (j.toNat < 1073741824)) fun i j => .int (i / j)
def gMod : D → D → Option XV := gI (fun _ j => decide (0 < j)) fun i j => .int (i % j)
def cPow (i j : Int) : Bool := decide (0 ≤ j) && decide (j.toNat ≤ 1000000) && decide (i.natAbs < 2 ^ 64)
def gPow : D → D → Option XV := gI cPow fun i j => .int (i ^ j.toNat)
end
section
variable {k : Nat} {c : Ctx} {a b : Expr} {f1 f2 : Ex} {pos : Pos}
theorem se_add (h1 : SE k c a f1) (h2 : SE k c b f2) : SE k c (.BinOp a .Add b pos) (x2 gAdd f1 f2) :=
  se_bin (r := fun x y H Q => _ ∨ _) (fun X hX => by obtain ⟨⟨TT0, rfl⟩, _⟩ := hX; exact (OpR.or (OpR.or op_add op_add_str) (OpR.or op_catF op_cat))) ((o_int0.or o_addS).or (o_addT.or o_addL)) h1 h2
theorem se_sub (h1 : SE k c a f1) (h2 : SE k c b f2) : SE k c (.BinOp a .Sub b pos) (x2 gSub f1 f2) := se_bin (fun _ _ => op_sub) o_int0 h1 h2
theorem se_mul (h1 : SE k c a f1) (h2 : SE k c b f2) : SE k c (.BinOp a .Mult b pos) (x2 gMul f1 f2) :=
  se_bin (r := fun x y H Q => _ ∨ _) (fun X hX => by obtain ⟨⟨TT0, rfl⟩, _⟩ := hX; exact (OpR.or op_mul (OpR.or op_rep op_repF)))
    ((o_int (C := CMul) fun i j h => by unfold cMul at h; unfold CMul; simp only [Bool.or_eq_true, decide_eq_true_eq] at h; omega).or (o_mulL.or o_mulT)) h1 h2
theorem se_fdiv (h1 : SE k c a f1) (h2 : SE k c b f2) : SE k c (.BinOp a .FloorDiv b pos) (x2 gDiv f1 f2) := se_bin (fun _ _ => op_fdiv) (o_int fun i j h => by unfold CDiv; simp only [Bool.and_eq_true, decide_eq_true_eq] at h; omega) h1 h2
theorem se_mod (h1 : SE k c a f1) (h2 : SE k c b f2) : SE k c (.BinOp a .Mod b pos) (x2 gMod f1 f2) := se_bin (fun _ _ => op_mod) (o_int fun i j h => by simpa using h) h1 h2
theorem cPow_ok {i j : Int} (h : cPow i j = true) : CPow i j := by
  unfold cPow at h; unfold CPow
  simp only [Bool.and_eq_true, decide_eq_true_eq] at h
  exact ⟨h.1.1, by omega, h.2⟩
theorem se_pow (h1 : SE k c a f1) (h2 : SE k c b f2) : SE k c (.BinOp a .Pow b pos) (x2 gPow f1 f2) := se_bin (fun _ _ => op_pow) (o_int fun i j h => cPow_ok h) h1 h2
end
theorem units_of {k : Nat} {c : Ctx} {X : Cx} (h : Fits k c X) : X.A.units + 200 < cLine := by have := h.rm.un; omega
section
variable {X : Cx}
def rEqM (K : PySem.W.Frag) (neg : Bool) : R2 := fun x y H Q => ∃ d e, Dp K H x d ∧ Dp K H y e ∧ d.canLay0 = true ∧ e.canLay0 = true ∧ min d.depth e.depth ≤ 64 ∧ Q (.bl (if neg then !PyData.eqv d e else PyData.eqv d e)) H
theorem op_eqM (hu : X.A.units + 64 < cLine) : OpR X (compareOp .Eq) (rEqM X.K false) := by
  intro pins s σ H x y v u Q I rx ry h
  obtain ⟨d, e, hd, he, sd, se, hm, q⟩ := h
  obtain ⟨as, r1⟩ := Dp.reads I d x v hd rx
  obtain ⟨bs, r2⟩ := Dp.reads I e y u he ry
  exact SeqAt.compareEq_reads r1 r2 sd se (by omega) ⟨.bl _, H, I, rfl, q⟩
theorem op_neM (hu : X.A.units + 64 < cLine) : OpR X (compareOp .NotEq) (rEqM X.K true) := by
  intro pins s σ H x y v u Q I rx ry h
  obtain ⟨d, e, hd, he, sd, se, hm, q⟩ := h
  obtain ⟨as, r1⟩ := Dp.reads I d x v hd rx
  obtain ⟨bs, r2⟩ := Dp.reads I e y u he ry
  exact SeqAt.compareNe_reads r1 r2 sd se (by omega) ⟨.bl _, H, I, rfl, q⟩
def rInM (K : PySem.W.Frag) (neg : Bool) : R2 := fun x y H Q => ∃ d ds, Dp K H x d ∧ (Dp K H y (.list ds) ∨ Dp K H y (.tuple ds)) ∧ d.canLay0 = true ∧ PyData.canLayAll0 ds = true ∧ d.depth ≤ 64 ∧
  Q (.bl (if neg then !(ds.any fun z => PyData.eqv z d) else ds.any fun z => PyData.eqv z d)) H
theorem op_inM (hu : X.A.units + 66 < cLine) : OpR X (compareOp .In) (rInM X.K false) := by
  intro pins s σ H x y v u Q I rx ry h
  obtain ⟨d, ds, hd, he, sd, se, hm, q⟩ := h
  obtain ⟨as, r1⟩ := Dp.reads I d x v hd rx
  have hz : X.A.units + 1 + min (PyData.depthAll ds) d.depth < cLine := by have := Nat.min_le_right (PyData.depthAll ds) d.depth; omega
  rcases he with he | he
  · obtain ⟨bs, r2⟩ := Dp.reads I _ y u he ry
    exact SeqAt.in_list_reads r2 r1 se sd hz ⟨.bl _, H, I, rfl, q⟩
  · obtain ⟨bs, r2⟩ := Dp.reads I _ y u he ry
    exact SeqAt.in_tuple_reads r2 r1 se sd hz ⟨.bl _, H, I, rfl, q⟩
theorem op_notInM (hu : X.A.units + 66 < cLine) : OpR X (compareOp .NotIn) (rInM X.K true) := by
  intro pins s σ H x y v u Q I rx ry h
  obtain ⟨d, ds, hd, he, sd, se, hm, q⟩ := h
  obtain ⟨as, r1⟩ := Dp.reads I d x v hd rx
  have hz : X.A.units + 1 + min (PyData.depthAll ds) d.depth < cLine := by have := Nat.min_le_right (PyData.depthAll ds) d.depth; omega
  rcases he with he | he
  · obtain ⟨bs, r2⟩ := Dp.reads I _ y u he ry
    exact SeqAt.notIn_list_reads r2 r1 se sd hz ⟨.bl _, H, I, rfl, q⟩
  · obtain ⟨bs, r2⟩ := Dp.reads I _ y u he ry
    exact SeqAt.notIn_tuple_reads r2 r1 se sd hz ⟨.bl _, H, I, rfl, q⟩
def rOrd (K : PySem.W.Frag) (g : D → D → Bool) : R2 := fun x y H Q => ∃ d e, Dp K H x d ∧ Dp K H y e ∧ PySem.W.alike d e = true ∧ d ≠ .none ∧ min d.depth e.depth ≤ 64 ∧ Q (.bl (g d e)) H
theorem op_ltM (hu : X.A.units + 64 < cLine) : OpR X (compareOp .Lt) (rOrd X.K fun d e => PySem.W.dataLt d e) := by
  intro pins s σ H x y v u Q I rx ry h
  obtain ⟨d, e, hd, he, sd, se, hm, q⟩ := h
  obtain ⟨as, r1⟩ := Dp.reads I d x v hd rx
  obtain ⟨bs, r2⟩ := Dp.reads I e y u he ry
  exact PySem.W.lt_data r1 r2 sd se (by omega) ⟨.bl _, H, I, rfl, q⟩
theorem op_gtM (hu : X.A.units + 64 < cLine) : OpR X (compareOp .Gt) (rOrd X.K fun d e => PySem.W.dataLt e d) := by
  intro pins s σ H x y v u Q I rx ry h
  obtain ⟨d, e, hd, he, sd, se, hm, q⟩ := h
  obtain ⟨as, r1⟩ := Dp.reads I d x v hd rx
  obtain ⟨bs, r2⟩ := Dp.reads I e y u he ry
  exact PySem.W.gt_data r1 r2 sd se (by omega) ⟨.bl _, H, I, rfl, q⟩
theorem op_leM (hu : X.A.units + 64 < cLine) : OpR X (compareOp .LtE) (rOrd X.K fun d e => !PySem.W.dataLt e d) := by
  intro pins s σ H x y v u Q I rx ry h
  obtain ⟨d, e, hd, he, sd, se, hm, q⟩ := h
  obtain ⟨as, r1⟩ := Dp.reads I d x v hd rx
  obtain ⟨bs, r2⟩ := Dp.reads I e y u he ry
  exact PySem.W.le_data r1 r2 sd se (by omega) ⟨.bl _, H, I, rfl, q⟩
theorem op_geM (hu : X.A.units + 64 < cLine) : OpR X (compareOp .GtE) (rOrd X.K fun d e => !PySem.W.dataLt d e) := by
  intro pins s σ H x y v u Q I rx ry h
  obtain ⟨d, e, hd, he, sd, se, hm, q⟩ := h
  obtain ⟨as, r1⟩ := Dp.reads I d x v hd rx
  obtain ⟨bs, r2⟩ := Dp.reads I e y u he ry
  exact PySem.W.ge_data r1 r2 sd se (by omega) ⟨.bl _, H, I, rfl, q⟩
end
section
variable {K : KK}
def gEq (neg : Bool) : D → D → Option XV := fun d e => if min d.depth e.depth ≤ 64 then some (.v (.bool (if neg then !PyData.eqv d e else PyData.eqv d e))) else none
theorem o_eq {neg : Bool} : Op2 K (rEqM K neg) (gEq neg) := by
  intro F H x y d e z Q s l1 l2 hg q
  unfold gEq at hg
  split at hg
  · rename_i h
    cases hg
    exact ⟨d, e, dw_dp _ _ (l1.dp s), dw_dp _ _ (l2.dp s), canLay_of_ok _ l1.ok, canLay_of_ok _ l2.ok, h, q _ H F (New.refl s) (Dq.bl _)⟩
  · cases hg
def gInD (neg : Bool) (d : D) (ds : List D) : Option XV := if d.depth ≤ 64 then some (.v (.bool (if neg then !(ds.any fun z => PyData.eqv z d) else ds.any fun z => PyData.eqv z d))) else none
def gInM (neg : Bool) : D → D → Option XV := fun d e => match e with
  | .list ds => gInD neg d ds
  | .tuple ds => gInD neg d ds
  | _ => none
theorem o_in {neg : Bool} : Op2 K (rInM K neg) (gInM neg) := by
  intro F H x y d e z Q s l1 l2 hg q
  unfold gInM at hg
  have hok := l2.ok
  split at hg
  · rename_i ds
    unfold gInD at hg
    split at hg
    · rename_i h
      cases hg
      rw [okD, Bool.and_eq_true] at hok
      exact ⟨d, ds, dw_dp _ _ (l1.dp s), .inl (dw_dp _ _ (l2.dp s)), canLay_of_ok _ l1.ok, canLays_of_ok _ hok.2, h, q _ H F (New.refl s) (Dq.bl _)⟩
    · cases hg
  · rename_i ds
    unfold gInD at hg
    split at hg
    · rename_i h
      cases hg
      rw [okD, Bool.and_eq_true] at hok
      exact ⟨d, ds, dw_dp _ _ (l1.dp s), .inr (dw_dp _ _ (l2.dp s)), canLay_of_ok _ l1.ok, canLays_of_ok _ hok.2, h, q _ H F (New.refl s) (Dq.bl _)⟩
    · cases hg
  · cases hg
def gInS (neg : Bool) : D → D → Option XV
  | .str i, .str j => some (.v (.bool (if neg then !(!(Builtin.Str.occurrences j i 0 j.length 1).isEmpty) else !(Builtin.Str.occurrences j i 0 j.length 1).isEmpty)))
  | _, _ => none
theorem o_inS : Op2 K (fun x y H Q => ∃ i j, x = .str i ∧ y = .str j ∧ Q (.bl (!(Builtin.Str.occurrences j i 0 j.length 1).isEmpty)) H) (gInS false) := by
  intro F H x y d e z Q s l1 l2 hg q
  unfold gInS at hg
  split at hg
  · cases hg
    exact ⟨_, _, l1.str.1, l2.str.1, q _ H F (New.refl s) (Dq.bl _)⟩
  · cases hg
theorem o_notInS : Op2 K (fun x y H Q => ∃ i j, x = .str i ∧ y = .str j ∧ Q (.bl (!(!(Builtin.Str.occurrences j i 0 j.length 1).isEmpty))) H) (gInS true) := by
  intro F H x y d e z Q s l1 l2 hg q
  unfold gInS at hg
  split at hg
  · cases hg
    exact ⟨_, _, l1.str.1, l2.str.1, q _ H F (New.refl s) (Dq.bl _)⟩
  · cases hg
def gIn (neg : Bool) : D → D → Option XV := fun d e => (gInM neg d e).or (gInS neg d e)
def isNone : D → Bool
  | .none => true
  | _ => false
def gOrdM (g : D → D → Bool) : D → D → Option XV := fun d e => if PySem.W.alike d e = true ∧ isNone d = false ∧ min d.depth e.depth ≤ 64 then some (.v (.bool (g d e))) else none
theorem o_ord {g : D → D → Bool} : Op2 K (rOrd K g) (gOrdM g) := by
  intro F H x y d e z Q s l1 l2 hg q
  unfold gOrdM at hg
  split at hg
  · rename_i h
    cases hg
    exact ⟨d, e, dw_dp _ _ (l1.dp s), dw_dp _ _ (l2.dp s), h.1, (fun z => by rw [z] at h; exact absurd h.2.1 (by decide)), h.2.2, q _ H F (New.refl s) (Dq.bl _)⟩
  · cases hg
def gLt : D → D → Option XV := fun d e => (gI (fun _ _ => true) (fun i j => .bool (decide (i < j))) d e).or (gOrdM (fun d e => PySem.W.dataLt d e) d e)
def gLe : D → D → Option XV := fun d e => (gI (fun _ _ => true) (fun i j => .bool (decide (i ≤ j))) d e).or (gOrdM (fun d e => !PySem.W.dataLt e d) d e)
def gGt : D → D → Option XV := fun d e => (gI (fun _ _ => true) (fun i j => .bool (decide (j < i))) d e).or (gOrdM (fun d e => PySem.W.dataLt e d) d e)
def gGe : D → D → Option XV := fun d e => (gI (fun _ _ => true) (fun i j => .bool (decide (j ≤ i))) d e).or (gOrdM (fun d e => !PySem.W.dataLt d e) d e)
def gIs (neg : Bool) : D → D → Option XV
  | d, .none => some (.v (.bool (if neg then !isNone d else isNone d)))
  | .bool a, .bool b => some (.v (.bool (if neg then !decide (a = b) else decide (a = b))))
  | _, _ => none
theorem Lk.isNone {F H : Hp} {v : V} {d : D} (h : Lk K F H v d) : decide (v = .non) = isNone d := by
  rcases h with ⟨h, _⟩ | ⟨_, _, _, rfl, rfl, _⟩
  · cases h <;> simp [R.isNone]
  · simp [R.isNone]
end
structure CO (k : Nat) (c : Ctx) (op : CmpOp) (g : D → D → Option XV) : Prop where
  ex : ∃ r, (∀ X, Fits k c X → OpR X (compareOp op) r) ∧ Op2 c.g.K r g
section
variable {k : Nat} {c : Ctx} {a b d : Expr} {f1 f2 f3 : Ex} {pos : Pos}
theorem co_eq : CO k c .Eq (gEq false) := ⟨_, fun X hX => by have := units_of hX; obtain ⟨⟨TT0, rfl⟩, _⟩ := hX; exact op_eqM (by omega), o_eq⟩
theorem co_ne : CO k c .NotEq (gEq true) := ⟨_, fun X hX => by have := units_of hX; obtain ⟨⟨TT0, rfl⟩, _⟩ := hX; exact op_neM (by omega), o_eq⟩
theorem co_in : CO k c .In (gIn false) := ⟨_, fun X hX => by have := units_of hX; obtain ⟨⟨TT0, rfl⟩, _⟩ := hX; exact OpR.or (op_inM (by omega)) op_in_str, o_in.or o_inS⟩
theorem co_notIn : CO k c .NotIn (gIn true) := ⟨_, fun X hX => by have := units_of hX; obtain ⟨⟨TT0, rfl⟩, _⟩ := hX; exact OpR.or (op_notInM (by omega)) op_notIn_str, o_in.or o_notInS⟩
theorem co_lt : CO k c .Lt gLt := ⟨_, fun X hX => by have := units_of hX; obtain ⟨⟨TT0, rfl⟩, _⟩ := hX; exact OpR.or op_lt (op_ltM (by omega)), o_cmp0.or o_ord⟩
theorem co_le : CO k c .LtE gLe := ⟨_, fun X hX => by have := units_of hX; obtain ⟨⟨TT0, rfl⟩, _⟩ := hX; exact OpR.or op_le (op_leM (by omega)), o_cmp0.or o_ord⟩
theorem co_gt : CO k c .Gt gGt := ⟨_, fun X hX => by have := units_of hX; obtain ⟨⟨TT0, rfl⟩, _⟩ := hX; exact OpR.or op_gt (op_gtM (by omega)), o_cmp0.or o_ord⟩
theorem co_ge : CO k c .GtE gGe := ⟨_, fun X hX => by have := units_of hX; obtain ⟨⟨TT0, rfl⟩, _⟩ := hX; exact OpR.or op_ge (op_geM (by omega)), o_cmp0.or o_ord⟩
theorem se_cm {op : CmpOp} {g : D → D → Option XV} (o : CO k c op g) (h1 : SE k c a f1) (h2 : SE k c b f2) (hm : behindInMarks op b = false := by rfl) : SE k c (.Compare a [op] [b] pos) (x2 g f1 f2) := by
  obtain ⟨⟨r, ho, o2⟩⟩ := o
  exact se_cmp ho o2 h1 h2 hm
end
theorem none_back {H H' : Hp} (h : ∀ a, H a ≠ none → H' a ≠ none) {a : Addr} (q : H' a = none) : H a = none := by
  cases z : H a with
  | none => rfl
  | some o => exact absurd q (h a (by rw [z]; exact fun y => by cases y))
theorem XR.from {K : KK} {H0 H1 H F : Hp} {ρ : En} {σ : Sg} {v : V} {x : XV} (h : ∀ a, H0 a ≠ none → H1 a ≠ none) (z : XR K H1 ρ σ H F v x) : XR K H0 ρ σ H F v x := by
  cases x with
  | v d => exact z
  | sl i => exact z
  | fr c =>
    obtain ⟨a, h1, h2, h3⟩ := z
    exact ⟨a, h1, none_back h h2, h3⟩
abbrev Tst := En → Option (Bool × En)
def SndT (K : KK) (t : TT) (f : Tst) : Prop :=
  ∀ (ρ : En) (σ : Sg) (H F : Hp) (Q : Bool → Hp → Prop) (b : Bool) (ρ' : En), Gd K ρ σ H F → f ρ = some (b, ρ') →
    (∀ H' F', Gd K ρ' σ H' F' → Ext ρ σ H F ρ' σ H' F' → Q b H') → t σ H Q
structure ST (k : Nat) (c : Ctx) (e : Expr) (f : Tst) : Prop where
  ex : ∃ t, (∀ X, Fits k c X → PT X e t) ∧ SndT c.g.K t f
structure SW (k : Nat) (c : Ctx) (e : Expr) (f : Tst) : Prop where
  ex : ∃ t, (∀ X, Fits k c X → PW X e t) ∧ SndT c.g.K t f
def tb (f : Ex) : Tst := fun ρ => (f ρ).bind fun p => match p.1 with
  | .v (.bool b) => some (b, p.2)
  | _ => none
theorem tb_some {f : Ex} {ρ ρ' : En} {b : Bool} (h : tb f ρ = some (b, ρ')) : f ρ = some (.v (.bool b), ρ') := by
  unfold tb at h
  rw [Option.bind_eq_some_iff] at h
  obtain ⟨⟨x, ρ1⟩, e, h⟩ := h
  simp only at h
  split at h
  · rename_i q; cases h; exact e
  · cases h
def truth : D → Option Bool
  | .none => some false
  | .bool b => some b
  | .int i => some (i != 0)
  | .str y => some ((y.length : Int) != 0)
  | .list xs => some (!xs.isEmpty)
  | .tuple xs => some (!xs.isEmpty)
  | .dict _ => none
def tt (f : Ex) : Tst := fun ρ => (f ρ).bind fun p => (look p.2 p.1).bind fun d => (truth d).map fun b => (b, p.2)
theorem Lk.tru {K : KK} {F H : Hp} {v : V} {d : D} {b : Bool} (s : Sub F H) (h : Lk K F H v d) (e : truth d = some b) : TruV K v H b := by
  cases d with
  | none => cases h.non; cases e; exact rfl
  | bool b => cases h.bl; cases e; exact rfl
  | int i => cases h.int; cases e; exact rfl
  | str y => obtain ⟨rfl, _, hl⟩ := h.str; cases e; exact ⟨hl, rfl⟩
  | list xs =>
    obtain ⟨a, vs, rfl, h1, h2, _⟩ := h.lst s
    cases e
    refine .inl ⟨vs, .inl (.inl h1), ?_⟩
    have := h2.length
    cases vs <;> cases xs <;> simp_all
  | tuple xs =>
    obtain ⟨a, vs, rfl, h1, h2, _⟩ := h.tup s
    cases e
    refine .inr (.inl ⟨vs, h1, ?_⟩)
    have := h2.length
    cases vs <;> cases xs <;> simp_all
  | dict _ => cases e
theorem snd_tt {K : KK} {t : TE} {f : Ex} (h : SndE K t f) : SndT K (fun σ H Q => t σ H fun x H' => ∃ k, TruV K x H' k ∧ Q k H') (tt f) := by
  intro ρ σ H F Q b ρ' G e q
  unfold tt at e
  rw [Option.bind_eq_some_iff] at e
  obtain ⟨⟨x, ρ1⟩, e1, e⟩ := e
  rw [Option.bind_eq_some_iff] at e
  obtain ⟨d, l, e⟩ := e
  rw [Option.map_eq_some_iff] at e
  obtain ⟨b', e3, e⟩ := e
  cases e
  refine h ρ σ H F _ x ρ1 G e1 fun v H' F' G' E' r => ?_
  exact ⟨b, (look_ok G' r l).tru G'.sub e3, q H' F' G' E'⟩
theorem snd_tb {K : KK} {t : TE} {f : Ex} (h : SndE K t f) : SndT K (tTest t) (tb f) := by
  intro ρ σ H F Q b ρ' G e q
  refine h ρ σ H F _ _ ρ' G (tb_some e) fun v H' F' G' E' r => ?_
  exact ⟨b, Dq.unbl r, q H' F' G' E'⟩
section
variable {k : Nat} {c : Ctx} {a b d : Expr} {es : List Expr} {f1 f2 f3 : Ex} {g1 g2 : Tst} {pos : Pos}
theorem st_val (h : SE k c a f1) (he : ∀ (env : Env) whole, isTrue a env whole = (do let v ← whole; standAt a.pos; holding [v] (truthy v)) := by intro _ _; rfl) : ST k c a (tt f1) := by
  obtain ⟨⟨t, p, s⟩⟩ := h
  refine ⟨_, fun X hX => ?_, snd_tt s⟩
  have q := pt_truth (p X hX) (he X.env)
  obtain ⟨⟨TT0, rfl⟩, _⟩ := hX
  exact q
theorem st_cm {op : CmpOp} {g : D → D → Option XV} (o : CO k c op g) (h1 : SE k c a f1) (h2 : SE k c b f2) (hm : behindInMarks op b = false := by rfl) : ST k c (.Compare a [op] [b] pos) (tb (x2 g f1 f2)) := by
  obtain ⟨⟨r, ho, o2⟩⟩ := o
  obtain ⟨⟨t1, p1, s1⟩⟩ := h1
  obtain ⟨⟨t2, p2, s2⟩⟩ := h2
  exact ⟨_, fun X hX => pt_cmpR (ho X hX) (p1 X hX) (p2 X hX) hm, snd_tb (snd_2 o2 s1 s2)⟩
def tAnd (g1 g2 : Tst) : Tst := fun ρ => (g1 ρ).bind fun p => if p.1 = true then g2 p.2 else some (false, p.2)
def tOr (g1 g2 : Tst) : Tst := fun ρ => (g1 ρ).bind fun p => if p.1 = true then some (true, p.2) else g2 p.2
def tNot (g1 : Tst) : Tst := fun ρ => (g1 ρ).map fun p => (!p.1, p.2)
theorem snd_and {K : KK} {t u : TT} (h1 : SndT K t g1) (h2 : SndT K u g2) : SndT K (L2.tAnd t u) (tAnd g1 g2) := by
  intro ρ σ H F Q b ρ' G e q
  unfold tAnd at e
  rw [Option.bind_eq_some_iff] at e
  obtain ⟨⟨x, ρ1⟩, e1, e⟩ := e
  refine h1 ρ σ H F _ x ρ1 G e1 fun H' F' G' E' => ?_
  cases x with
  | true => exact h2 ρ1 σ H' F' Q b ρ' G' e fun H2 F2 G2 E2 => q H2 F2 G2 (E'.trans E2)
  | false => cases e; exact q H' F' G' E'
theorem snd_or {K : KK} {t u : TT} (h1 : SndT K t g1) (h2 : SndT K u g2) : SndT K (L2.tOr t u) (tOr g1 g2) := by
  intro ρ σ H F Q b ρ' G e q
  unfold tOr at e
  rw [Option.bind_eq_some_iff] at e
  obtain ⟨⟨x, ρ1⟩, e1, e⟩ := e
  refine h1 ρ σ H F _ x ρ1 G e1 fun H' F' G' E' => ?_
  cases x with
  | false => exact h2 ρ1 σ H' F' Q b ρ' G' e fun H2 F2 G2 E2 => q H2 F2 G2 (E'.trans E2)
  | true => cases e; exact q H' F' G' E'
theorem snd_not {K : KK} {t : TT} (h1 : SndT K t g1) : SndT K (L2.tNot t) (tNot g1) := by
  intro ρ σ H F Q b ρ' G e q
  unfold tNot at e
  rw [Option.map_eq_some_iff] at e
  obtain ⟨⟨x, ρ1⟩, e1, e⟩ := e
  cases e
  exact h1 ρ σ H F _ x _ G e1 fun H' F' G' E' => q H' F' G' E'
theorem sw_and1 (h : ST k c a g1) : SW k c (.BoolOp .And [a] pos) g1 := by
  obtain ⟨⟨t, p, s⟩⟩ := h
  exact ⟨_, fun X hX => pw_and1 (p X hX), s⟩
theorem sw_or1 (h : ST k c a g1) : SW k c (.BoolOp .Or [a] pos) g1 := by
  obtain ⟨⟨t, p, s⟩⟩ := h
  exact ⟨_, fun X hX => pw_or1 (p X hX), s⟩
theorem sw_and (h1 : ST k c a g1) (h2 : SW k c (.BoolOp .And (b :: es) pos) g2) : SW k c (.BoolOp .And (a :: b :: es) pos) (tAnd g1 g2) := by
  obtain ⟨⟨t1, p1, s1⟩⟩ := h1
  obtain ⟨⟨t2, p2, s2⟩⟩ := h2
  exact ⟨_, fun X hX => pw_and (p1 X hX) (p2 X hX), snd_and s1 s2⟩
theorem sw_or (h1 : ST k c a g1) (h2 : SW k c (.BoolOp .Or (b :: es) pos) g2) : SW k c (.BoolOp .Or (a :: b :: es) pos) (tOr g1 g2) := by
  obtain ⟨⟨t1, p1, s1⟩⟩ := h1
  obtain ⟨⟨t2, p2, s2⟩⟩ := h2
  exact ⟨_, fun X hX => pw_or (p1 X hX) (p2 X hX), snd_or s1 s2⟩
theorem SW.st (h : SW k c a g1) : ST k c a g1 := by
  obtain ⟨⟨t, p, s⟩⟩ := h
  exact ⟨_, fun X hX => (p X hX).pt, s⟩
theorem st_not (h : ST k c a g1) : ST k c (.UnaryOp .Not a pos) (tNot g1) := by
  obtain ⟨⟨t, p, s⟩⟩ := h
  exact ⟨_, fun X hX => pt_not (p X hX), snd_not s⟩
def xb (p : XV × En) (f : Bool → En → Option (XV × En)) : Option (XV × En) := match p.1 with
  | .v (.bool b) => f b p.2
  | _ => none
def xand (f1 f2 : Ex) : Ex := fun ρ => (f1 ρ).bind fun p => xb p fun b ρ' => if b = true then f2 ρ' else some (.v (.bool false), ρ')
def xor (f1 f2 : Ex) : Ex := fun ρ => (f1 ρ).bind fun p => xb p fun b ρ' => if b = true then some (.v (.bool true), ρ') else f2 ρ'
def xnot (f1 : Ex) : Ex := fun ρ => (f1 ρ).bind fun p => xb p fun b ρ' => some (.v (.bool (!b)), ρ')
def xif (g : Tst) (f1 f2 : Ex) : Ex := fun ρ => (g ρ).bind fun p => if p.1 = true then f1 p.2 else f2 p.2
def xch (g g' : D → D → Option XV) (f1 f2 f3 : Ex) : Ex := fun ρ => (stl f1 ρ).bind fun p => (stl f2 p.2).bind fun q => (look q.2 p.1).bind fun d => (look q.2 q.1).bind fun e => (g d e).bind fun z =>
  xb (z, q.2) fun b ρ2 => if b = true then (stl f3 ρ2).bind fun r => (look r.2 q.1).bind fun e' => (look r.2 r.1).bind fun d' => (g' e' d').map fun z' => (z', r.2) else some (.v (.bool false), ρ2)
def xneg (f : Ex) : Ex := fun ρ => (f ρ).bind fun p => match p.1 with
  | .v (.int i) => some (.v (.int (-i)), p.2)
  | _ => none
def gIx : D → D → Option XV
  | .list ds, .int i => (atI ds i).map .v
  | .tuple ds, .int i => (atI ds i).map .v
  | _, _ => none
theorem atI_rel {K : KK} {F : Hp} {ds : List D} {vs : List V} {i : Int} {d : D} (h : Dqs K F vs ds) (e : atI ds i = some d) : ∃ v, atI vs i = some v ∧ Dq K F v d := by
  unfold atI at e ⊢
  rw [h.length]
  rw [Option.bind_eq_some_iff] at e
  obtain ⟨j, e1, e2⟩ := e
  obtain ⟨v, h1, h2⟩ := h.get e2
  exact ⟨v, by rw [e1]; exact h1, h2⟩
theorem o_ix {K : KK} : Op2 K (fun x y H Q => rIxL K x y H Q ∨ rIxT K x y H Q) gIx := by
  intro F H x y d e z Q s l1 l2 hg q
  unfold gIx at hg
  split at hg
  · rename_i ds i
    rw [Option.map_eq_some_iff] at hg
    obtain ⟨r, e1, rfl⟩ := hg
    obtain ⟨a, vs, rfl, h1, h2, _⟩ := l1.lst s
    obtain ⟨v, h3, h4⟩ := atI_rel h2 e1
    exact .inl ⟨a, vs, i, v, rfl, l2.int, .inl (.inl h1), h3, q v H F (New.refl s) h4⟩
  · rename_i ds i
    rw [Option.map_eq_some_iff] at hg
    obtain ⟨r, e1, rfl⟩ := hg
    obtain ⟨a, vs, rfl, h1, h2, _⟩ := l1.tup s
    obtain ⟨v, h3, h4⟩ := atI_rel h2 e1
    exact .inr ⟨a, vs, i, v, rfl, l2.int, h1, h3, q v H F (New.refl s) h4⟩
  · cases hg
theorem se_ix (h1 : SE k c a f1) (h2 : SE k c b f2) (hs : PlainIx b := by exact fun _ _ => rfl) : SE k c (.Subscript a b pos) (x2 gIx f1 f2) := by
  obtain ⟨⟨t1, p1, s1⟩⟩ := h1
  obtain ⟨⟨t2, p2, s2⟩⟩ := h2
  refine ⟨_, fun X hX => ?_, snd_2 o_ix s1 s2⟩
  have q1 := p1 X hX
  have q2 := p2 X hX
  obtain ⟨⟨TT0, rfl⟩, _⟩ := hX
  exact pe_ix (IxR.or ix_list ix_tup) q1 q2 hs
def xsc (i : Nat) (f : Ex) : Ex := fun ρ => match ρ[i]? with
  | some (.r ns) => (f ρ).bind fun p => match p.1 with
    | .v (.int j) => (atI ns j).map fun n => (.v (.int n), p.2)
    | _ => none
  | _ => none
theorem atI_map {α β : Type} (g : α → β) (xs : List α) (i : Int) : atI (xs.map g) i = (atI xs i).map g := by
  unfold atI
  rw [List.length_map]
  cases ixN xs.length i with
  | none => rfl
  | some j => simp
theorem se_sc (i : Nat) {x : Str} {p1 : Pos} (hN : c.N[i]? = some x) (hv : Vis c.sc x) (h2 : SE k c b f2) (hs : PlainIx b := by exact fun _ _ => rfl) (hd : (x == ("__debug__" : Str)) = false := by decide) (hcd : (x == ("__classdict__" : Str)) = false := by decide) :
    SE k c (.Subscript (.Name x p1) b pos) (xsc i f2) := by
  obtain ⟨⟨t2, p2, s2⟩⟩ := h2
  refine ⟨tOp (rIxL c.g.K) (tVar i) t2, fun X hX => ?_, ?_⟩
  · have q2 := p2 X hX
    obtain ⟨⟨TT0, rfl⟩, _⟩ := hX
    exact pe_ix ix_list (pe_var hN hv hd hcd) q2 hs
  · intro ρ σ H F Q x ρ' G e q
    unfold xsc at e
    split at e
    · rename_i ns h
      obtain ⟨a, h1, h2, h3⟩ := G.scr i ns h
      rw [Option.bind_eq_some_iff] at e
      obtain ⟨⟨y, ρ1⟩, e1, e⟩ := e
      simp only at e
      split at e
      · rename_i j
        rw [Option.map_eq_some_iff] at e
        obtain ⟨n, e2, e⟩ := e
        cases e
        refine ⟨_, h1, s2 ρ σ H F _ _ _ G e1 fun v H' F' G' E' r => ?_⟩
        refine ⟨a, ns.map V.int, j, .int n, rfl, Dq.unint r, sqL_sub (E'.fz.trans G'.sub) h2, ?_, q _ H' F' G' E' (Dq.int n)⟩
        rw [atI_map, e2]; rfl
      · cases e
    · cases e
end
abbrev AEx := En → Option (List XV × En)
def AR (K : KK) (H0 : Hp) (ρ : En) (σ : Sg) (H F : Hp) : List V → List XV → Prop
  | [], [] => True
  | v :: vs, x :: xs => XR K H0 ρ σ H F v x ∧ AR K H0 ρ σ H F vs xs
  | _, _ => False
def SndA (K : KK) (t : TA) (f : AEx) : Prop :=
  ∀ (ρ : En) (σ : Sg) (H F : Hp) (Q : List V → Hp → Prop) (xs : List XV) (ρ' : En), Gd K ρ σ H F → f ρ = some (xs, ρ') →
    (∀ vs H' F', Gd K ρ' σ H' F' → Ext ρ σ H F ρ' σ H' F' → AR K H ρ' σ H' F' vs xs → (∀ x ∈ xs, ∀ ct, x ≠ .fr ct) → Q vs H') → t σ H Q
structure SA (k : Nat) (c : Ctx) (es : List Expr) (f : AEx) : Prop where
  ex : ∃ t, (∀ X, Fits k c X → PA X es t) ∧ SndA c.g.K t f
def XV.held : XV → Bool
  | .fr _ => false
  | _ => true
def anil : AEx := fun ρ => some ([], ρ)
def acons (f : Ex) (fs : AEx) : AEx := fun ρ => (stl f ρ).bind fun p => if p.1.held = true then (fs p.2).map fun q => (p.1 :: q.1, q.2) else none
theorem AR.length {K : KK} {H0 : Hp} {ρ : En} {σ : Sg} {H F : Hp} : ∀ {vs : List V} {xs : List XV}, AR K H0 ρ σ H F vs xs → vs.length = xs.length
  | [], [], _ => rfl
  | _ :: vs, _ :: xs, h => by simp only [List.length_cons, AR.length h.2]
  | [], _ :: _, h => h.elim
  | _ :: _, [], h => h.elim
theorem AR.get {K : KK} {H0 : Hp} {ρ : En} {σ : Sg} {H F : Hp} : ∀ {vs : List V} {xs : List XV} {i : Nat} {x : XV}, AR K H0 ρ σ H F vs xs → xs[i]? = some x → ∃ v, vs[i]? = some v ∧ XR K H0 ρ σ H F v x
  | v :: vs, x :: xs, 0, y, h, e => by simp at e; subst e; exact ⟨v, rfl, h.1⟩
  | v :: vs, x :: xs, i + 1, y, h, e => by
    obtain ⟨w, h1, h2⟩ := AR.get (i := i) (x := y) h.2 (by simpa using e)
    exact ⟨w, by simpa using h1, h2⟩
  | [], [], i, y, h, e => by simp at e
  | [], _ :: _, _, _, h, _ => h.elim
  | _ :: _, [], _, _, h, _ => h.elim
theorem AR.mono {K : KK} {H0 H0' : Hp} {ρ ρ' : En} {σ : Sg} {H F H' F' : Hp} : ∀ {vs : List V} {xs : List XV}, AR K H0 ρ σ H F vs xs → (∀ v x, x ∈ xs → XR K H0 ρ σ H F v x → XR K H0' ρ' σ H' F' v x) → AR K H0' ρ' σ H' F' vs xs
  | [], [], _, _ => trivial
  | v :: vs, x :: xs, h, i => ⟨i v x List.mem_cons_self h.1, AR.mono h.2 fun v x m => i v x (List.mem_cons_of_mem _ m)⟩
  | [], _ :: _, h, _ => h.elim
  | _ :: _, [], h, _ => h.elim
section
variable {k : Nat} {c : Ctx} {e : Expr} {es : List Expr} {f : Ex} {fs : AEx} {pos : Pos}
theorem sa_nil : SA k c [] anil := ⟨tNil, fun X _ => pa_nil, fun ρ σ H F Q xs ρ' G e q => by cases e; exact q [] H F G (Ext.refl ..) trivial fun x hx => by cases hx⟩
theorem sa_cons (h1 : SE k c e f) (h2 : SA k c es fs) (hs : ∀ env, starEach (e :: es) env = (false, eval e env) :: starEach es env := by intro _; rfl) : SA k c (e :: es) (acons f fs) := by
  obtain ⟨⟨t1, p1, s1⟩⟩ := h1
  obtain ⟨⟨t2, p2, s2⟩⟩ := h2
  refine ⟨_, fun X hX => pa_cons (p1 X hX) (p2 X hX) (hs X.env), ?_⟩
  intro ρ σ H F Q xs ρ' G e q
  unfold acons at e
  rw [Option.bind_eq_some_iff] at e
  obtain ⟨⟨x1, ρ1⟩, e1, e⟩ := e
  split at e
  · rename_i hh
    rw [Option.map_eq_some_iff] at e
    obtain ⟨⟨ys, ρ2⟩, e2, e⟩ := e
    cases e
    have nf : ∀ ct, x1 ≠ .fr ct := fun ct z => by rw [z] at hh; cases hh
    refine s1.stl ρ σ H F _ x1 ρ1 G e1 fun v1 H1 F1 G1 E1 r1 => ?_
    refine s2 ρ1 σ H1 F1 _ ys ρ2 G1 e2 fun vs H2 F2 G2 E2 r2 n2 => ?_
    refine q (v1 :: vs) H2 F2 G2 (E1.trans E2) ⟨r1.later E2 nf, r2.mono fun v x _ z => z.from E1.dom⟩ fun x hx => ?_
    rcases List.mem_cons.mp hx with rfl | hx
    · exact nf
    · exact n2 x hx
  · cases e
def vals : List XV → Option (List D)
  | [] => some []
  | .v d :: xs => (vals xs).map (d :: ·)
  | _ :: _ => none
theorem vals_ok {K : KK} {H0 : Hp} {ρ : En} {σ : Sg} {H F : Hp} : ∀ {vs : List V} {xs : List XV} {ds : List D}, AR K H0 ρ σ H F vs xs → vals xs = some ds → Dqs K F vs ds
  | [], [], ds, _, e => by cases e; exact .nil
  | v :: vs, .v d :: xs, ds, h, e => by
    unfold vals at e
    rw [Option.map_eq_some_iff] at e
    obtain ⟨ds', e, rfl⟩ := e
    exact .cons h.1 (vals_ok h.2 e)
  | v :: vs, .sl _ :: xs, ds, h, e => by cases e
  | v :: vs, .fr _ :: xs, ds, h, e => by cases e
  | [], _ :: _, _, h, _ => h.elim
  | _ :: _, [], _, h, _ => h.elim
def xtup (fs : AEx) : Ex := fun ρ => (fs ρ).bind fun p => (vals p.1).bind fun ds => if ds.length ≤ 1000 then some (.v (.tuple ds), p.2) else none
def xlst (fs : AEx) : Ex := fun ρ => (fs ρ).bind fun p => (vals p.1).bind fun ds => if ds.length ≤ 1000 then some (.fr (.l ds), p.2) else none
theorem line1000 {n : Nat} (h : n ≤ 1000) : n ≤ sizeLine := by rw [sizeLine_eq]; omega
theorem se_tup {x1} (h : SA k c es fs) : SE k c (.Tuple es x1 pos) (xtup fs) := by
  obtain ⟨⟨t, p, s⟩⟩ := h
  refine ⟨_, fun X hX => pe_tupF (p X hX), ?_⟩
  intro ρ σ H F Q x ρ' G e q
  unfold xtup at e
  rw [Option.bind_eq_some_iff] at e
  obtain ⟨⟨xs, ρ1⟩, e1, e⟩ := e
  rw [Option.bind_eq_some_iff] at e
  obtain ⟨ds, e2, e⟩ := e
  split at e
  · rename_i hl
    cases e
    refine s ρ σ H F _ xs _ G e1 fun vs H1 F1 G1 E1 r1 _ => ?_
    have hv := vals_ok r1 e2
    refine ⟨by rw [hv.length]; exact line1000 hl, fun p o hp ho => ?_⟩
    have n := New.put (o := .frz o (.tup vs)) G1.sub hp
    exact q _ _ _ (n.gd G1) (E1.trans (n.ext G1)) (Dq.tup (.at ho) (hv.sub n.fz) (line1000 hl))
  · cases e
theorem se_lst (h : SA k c es fs) : SE k c (.List es pos) (xlst fs) := by
  obtain ⟨⟨t, p, s⟩⟩ := h
  refine ⟨_, fun X hX => pe_lst (p X hX), ?_⟩
  intro ρ σ H F Q x ρ' G e q
  unfold xlst at e
  rw [Option.bind_eq_some_iff] at e
  obtain ⟨⟨xs, ρ1⟩, e1, e⟩ := e
  rw [Option.bind_eq_some_iff] at e
  obtain ⟨ds, e2, e⟩ := e
  split at e
  · rename_i hl
    cases e
    refine s ρ σ H F _ xs _ G e1 fun vs H1 F1 G1 E1 r1 _ => ?_
    have hv := vals_ok r1 e2
    refine ⟨by rw [hv.length]; exact line1000 hl, fun p hp => ?_⟩
    have n := New.open (o := .lst vs) G1.sub hp
    exact q _ _ _ (n.gd G1) (E1.trans (n.ext G1)) ⟨p, rfl, none_back E1.dom hp, G1.sub.none hp, ⟨vs, upd_same, hv, line1000 hl⟩, G1.fresh hp⟩
  · cases e
end
def Call1 (K : KK) (r : List V → Hp → VK → Prop) (g : D → Option XV) : Prop :=
  ∀ (F H : Hp) (x : V) (d : D) (z : XV) (Q : VK), Sub F H → Lk K F H x d → g d = some z → (∀ v H' F', New F H F' H' → ZR K H H' F' v z → Q v H') → r [x] H Q
def x1 (g : D → Option XV) (f : Ex) : Ex := fun ρ => (f ρ).bind fun p => (look p.2 p.1).bind fun d => (g d).map fun z => (z, p.2)
theorem snd_1 {K : KK} {r : List V → Hp → VK → Prop} {g : D → Option XV} {t : TE} {f : Ex} (o : Call1 K r g) (h : SndE K t f) : SndE K (tCB r (tCons t tNil)) (x1 g f) := by
  intro ρ σ H F Q x ρ' G e q
  unfold x1 at e
  rw [Option.bind_eq_some_iff] at e
  obtain ⟨⟨y, ρ1⟩, e1, e⟩ := e
  rw [Option.bind_eq_some_iff] at e
  obtain ⟨d, l, e⟩ := e
  rw [Option.map_eq_some_iff] at e
  obtain ⟨z, e3, e⟩ := e
  cases e
  refine h ρ σ H F _ y ρ1 G e1 fun v H1 F1 G1 E1 r1 => ?_
  refine o F1 H1 v d _ Q G1.sub (look_ok G1 r1 l) e3 fun v2 H2 F2 n zr => ?_
  exact q v2 H2 F2 (n.gd G1) (E1.trans (n.ext G1)) (zr.xr G1 fun a ha => none_back E1.dom ha)
theorem Call1.or {K : KK} {r r' : List V → Hp → VK → Prop} {g g' : D → Option XV} (h : Call1 K r g) (h' : Call1 K r' g') : Call1 K (fun xs H Q => r xs H Q ∨ r' xs H Q) (fun d => (g d).or (g' d)) := by
  intro F H x d z Q s l hg q
  cases hq : g d with
  | some z' =>
    simp only [hq, Option.some_or] at hg
    cases hg
    exact .inl (h F H x d _ Q s l hq q)
  | none =>
    simp only [hq, Option.none_or] at hg
    exact .inr (h' F H x d _ Q s l hg q)
theorem Call1.imp {K : KK} {r : List V → Hp → VK → Prop} {g g' : D → Option XV} (h : Call1 K r g) (i : ∀ d z, g' d = some z → g d = some z) : Call1 K r g' :=
  fun F H x d z Q s l hg q => h F H x d z Q s l (i _ _ hg) q
theorem star1 (e : Expr) (env : Env) (h : starEach [e] env = [(false, eval e env)]) : starEach [e] env = (false, eval e env) :: starEach [] env := by rw [h]; rfl
section
variable {k : Nat} {c : Ctx} {a b : Expr} {f f1 f2 : Ex} {pos p : Pos} {x : Str} {id T : String} {r : List V → Hp → VK → Prop} {g : D → Option XV}
theorem se_b1 (hg : c.sc.names.lookup x = some .globalImplicit) (hm : c.g.mg x = none) (hv : bootBuiltins x = some (.builtin id)) (hc : ∀ X, Fits k c X → CallR X (.builtin id) r) (o : Call1 c.g.K r g) (h : SE k c a f)
    (hs : ∀ env, starEach [a] env = [(false, eval a env)] := by intro _; rfl) (hn : x ≠ "__name__" := by decide) (hdb : (x == ("__debug__" : Str)) = false := by decide) : SE k c (.Call (.Name x p) [a] [] pos) (x1 g f) := by
  obtain ⟨⟨t, pp, s⟩⟩ := h
  refine ⟨_, fun X hX => ?_, snd_1 o s⟩
  have q := pp X hX
  have q2 := hc X hX
  obtain ⟨⟨TT0, rfl⟩, _⟩ := hX
  exact pe_callB q2 hg hm hv (pa_cons q pa_nil (hs := star1 a _ (hs _))) hn hdb (he := star1 a _ (hs _)) (hpl := rfl)
theorem se_ty1 (hg : c.sc.names.lookup x = some .globalImplicit) (hm : c.g.mg x = none) (hv : bootBuiltins x = some (.type T)) (hc : ∀ X, Fits k c X → CallR X (.type T) r) (o : Call1 c.g.K r g) (h : SE k c a f)
    (hs : ∀ env, starEach [a] env = [(false, eval a env)] := by intro _; rfl) (hn : x ≠ "__name__" := by decide) (hdb : (x == ("__debug__" : Str)) = false := by decide) : SE k c (.Call (.Name x p) [a] [] pos) (x1 g f) := by
  obtain ⟨⟨t, pp, s⟩⟩ := h
  refine ⟨_, fun X hX => ?_, snd_1 o s⟩
  have q := pp X hX
  have q2 := hc X hX
  obtain ⟨⟨TT0, rfl⟩, _⟩ := hX
  exact pe_callTy q2 hg hm hv (pa_cons q pa_nil (hs := star1 a _ (hs _))) hn hdb (he := star1 a _ (hs _)) (hpl := rfl)
end
section
variable {K : KK}
def gLen : D → Option XV
  | .list ds => some (.v (.int ds.length))
  | .tuple ds => some (.v (.int ds.length))
  | .str z => some (.v (.int z.length))
  | _ => none
theorem c_len : Call1 K (fun xs H Q => (∃ p ys, xs = [.ref p] ∧ (SqL K H p ys ∨ SqT K H p ys) ∧ Q (.int ys.length) H) ∨ (∃ z, xs = [.str z] ∧ z.length ≤ sizeLine ∧ Q (.int z.length) H)) gLen := by
  intro F H x d z Q s l hg q
  unfold gLen at hg
  split at hg
  · cases hg
    obtain ⟨a, vs, rfl, h1, h2, _⟩ := l.lst s
    refine .inl ⟨a, vs, rfl, .inl (.inl (.inl h1)), q _ H F (New.refl s) ?_⟩
    rw [h2.length]; exact Dq.int _
  · cases hg
    obtain ⟨a, vs, rfl, h1, h2, _⟩ := l.tup s
    refine .inl ⟨a, vs, rfl, .inr h1, q _ H F (New.refl s) ?_⟩
    rw [h2.length]; exact Dq.int _
  · cases hg
    obtain ⟨rfl, _, hl⟩ := l.str
    exact .inr ⟨_, rfl, hl, q _ H F (New.refl s) (Dq.int _)⟩
  · cases hg
def gInt : D → Option XV
  | .int i => some (.v (.int i))
  | .bool b => some (.v (.int (if b then 1 else 0)))
  | _ => none
theorem c_int : Call1 K (fun xs H Q => (∃ i, xs = [.int i] ∧ Q (.int i) H) ∨ ∃ k, xs = [.bl k] ∧ Q (.int (if k then 1 else 0)) H) gInt := by
  intro F H x d z Q s l hg q
  unfold gInt at hg
  split at hg
  · cases hg; exact .inl ⟨_, by rw [l.int], q _ H F (New.refl s) (Dq.int _)⟩
  · cases hg; exact .inr ⟨_, by rw [l.bl], q _ H F (New.refl s) (Dq.int _)⟩
  · cases hg
def gTuple : D → Option XV
  | .list ds => some (.v (.tuple ds))
  | .tuple ds => some (.v (.tuple ds))
  | _ => none
theorem c_tuple : Call1 K (fun xs H Q => ∃ p ys, xs = [.ref p] ∧ ((SqL K H p ys ∧ Fz H ys Q) ∨ (SqT K H p ys ∧ Q (.ref p) H))) gTuple := by
  intro F H x d z Q s l hg q
  unfold gTuple at hg
  split at hg
  · cases hg
    obtain ⟨a, vs, rfl, h1, h2, h3⟩ := l.lst s
    refine ⟨a, vs, rfl, .inl ⟨.inl (.inl h1), fun p o hp ho => ?_⟩⟩
    have n := New.put (o := .frz o (.tup vs)) s hp
    exact q _ _ _ n (Dq.tup (.at ho) (h2.sub n.fz) h3)
  · cases hg
    obtain ⟨a, vs, rfl, h1, h2, h3, h4⟩ := l.tup s
    exact ⟨a, vs, rfl, .inr ⟨h1, q _ H F (New.refl s) h4⟩⟩
  · cases hg
def gList : D → Option XV
  | .list ds => some (.fr (.l ds))
  | .tuple ds => some (.fr (.l ds))
  | _ => none
theorem c_list : Call1 K (fun xs H Q => ∃ p ys, xs = [.ref p] ∧ (SqL K H p ys ∨ SqT K H p ys) ∧ ∀ l, H l = none → Q (.ref l) (upd H l (.lst ys))) gList := by
  intro F H x d z Q s l hg q
  unfold gList at hg
  split at hg
  · cases hg
    obtain ⟨a, vs, rfl, h1, h2, h3⟩ := l.lst s
    exact ⟨a, vs, rfl, .inl (.inl (.inl h1)), fun p hp => q _ _ _ (New.open (o := .lst vs) s hp) ⟨p, rfl, hp, s.none hp, vs, upd_same, h2, h3⟩⟩
  · cases hg
    obtain ⟨a, vs, rfl, h1, h2, h3, h4⟩ := l.tup s
    exact ⟨a, vs, rfl, .inr h1, fun p hp => q _ _ _ (New.open (o := .lst vs) s hp) ⟨p, rfl, hp, s.none hp, vs, upd_same, h2, h3⟩⟩
  · cases hg
def intsOf : List D → Option (List Int)
  | [] => some []
  | .int i :: ds => (intsOf ds).map (i :: ·)
  | _ :: _ => none
def boolsOf : List D → Option (List Bool)
  | [] => some []
  | .bool i :: ds => (boolsOf ds).map (i :: ·)
  | _ :: _ => none
theorem boolsOf_ok {F : Hp} : ∀ {ds : List D} {vs : List V} {ns : List Bool}, Dqs K F vs ds → boolsOf ds = some ns → vs = ns.map V.bl
  | [], vs, ns, h, e => by cases e; rw [h.unnil]; rfl
  | .bool i :: ds, vs, ns, h, e => by
    obtain ⟨v, vs', rfl, a, b⟩ := h.uncons
    unfold boolsOf at e
    rw [Option.map_eq_some_iff] at e
    obtain ⟨ns', e, rfl⟩ := e
    rw [a.unbl, boolsOf_ok b e]; rfl
  | .none :: _, _, _, _, e => by cases e
  | .int _ :: _, _, _, _, e => by cases e
  | .str _ :: _, _, _, _, e => by cases e
  | .list _ :: _, _, _, _, e => by cases e
  | .tuple _ :: _, _, _, _, e => by cases e
  | .dict _ :: _, _, _, _, e => by cases e
def gSum : D → Option XV
  | .list ds => (intsOf ds).map fun ns => .v (.int ns.sum)
  | _ => none
def gAll : D → Option XV
  | .list ds => (boolsOf ds).map fun ns => .v (.bool (ns.all id))
  | _ => none
def gAny : D → Option XV
  | .list ds => (boolsOf ds).map fun ns => .v (.bool (ns.any id))
  | _ => none
theorem c_all : Call1 K (rAll K) gAll := by
  intro F H x d z Q s l hg q
  unfold gAll at hg
  split at hg
  · rw [Option.map_eq_some_iff] at hg
    obtain ⟨ns, e, rfl⟩ := hg
    obtain ⟨a, vs, rfl, h1, h2, h3⟩ := l.lst s
    exact ⟨a, ns, rfl, by rw [← boolsOf_ok h2 e]; exact .inl (.inl h1), q _ H F (New.refl s) (Dq.bl _)⟩
  · cases hg
end
section
variable {k : Nat} {c : Ctx} {a b : Expr} {f f1 f2 : Ex} {pos p : Pos}
theorem se_len (hg : c.sc.names.lookup (Str.ofString "len") = some .globalImplicit) (hm : c.g.mg "len" = none) (h : SE k c a f) (hs : ∀ env, starEach [a] env = [(false, eval a env)] := by intro _; rfl) : SE k c (.Call (.Name "len" p) [a] [] pos) (x1 gLen f) :=
  se_b1 hg hm PySem.boot_len (fun X hX => by obtain ⟨⟨TT0, rfl⟩, _⟩ := hX; exact CallR.or call_len_seq call_len_str) c_len h hs
theorem se_int1 (hg : c.sc.names.lookup (Str.ofString "int") = some .globalImplicit) (hm : c.g.mg "int" = none) (h : SE k c a f) (hs : ∀ env, starEach [a] env = [(false, eval a env)] := by intro _; rfl) : SE k c (.Call (.Name "int" p) [a] [] pos) (x1 gInt f) :=
  se_ty1 hg hm PyProof.Rows.boot_int (fun X hX => call_int1) c_int h hs
theorem se_tuple1 (hg : c.sc.names.lookup (Str.ofString "tuple") = some .globalImplicit) (hm : c.g.mg "tuple" = none) (h : SE k c a f) (hs : ∀ env, starEach [a] env = [(false, eval a env)] := by intro _; rfl) : SE k c (.Call (.Name "tuple" p) [a] [] pos) (x1 gTuple f) :=
  se_ty1 (T := "tuple") hg hm (by decide +kernel) (fun X hX => by obtain ⟨⟨TT0, rfl⟩, _⟩ := hX; exact call_tupF) c_tuple h hs
theorem se_list1 (hg : c.sc.names.lookup (Str.ofString "list") = some .globalImplicit) (hm : c.g.mg "list" = none) (h : SE k c a f) (hs : ∀ env, starEach [a] env = [(false, eval a env)] := by intro _; rfl) : SE k c (.Call (.Name "list" p) [a] [] pos) (x1 gList f) :=
  se_ty1 (T := "list") hg hm (by decide +kernel) (fun X hX => by obtain ⟨⟨TT0, rfl⟩, _⟩ := hX; exact call_list_of) c_list h hs
theorem se_all (hg : c.sc.names.lookup (Str.ofString "all") = some .globalImplicit) (hm : c.g.mg "all" = none) (h : SE k c a f) (hs : ∀ env, starEach [a] env = [(false, eval a env)] := by intro _; rfl) (hcm : c.calm = true := by rfl) : SE k c (.Call (.Name "all" p) [a] [] pos) (x1 gAll f) :=
  se_b1 (id := "all") hg hm (by decide +kernel) (fun X hX => by have hc := (hX.calm hcm); obtain ⟨⟨TT0, rfl⟩, _⟩ := hX; exact cr_all hc) c_all h hs
end
inductive Ty6 where
  | int | bool | str | tuple | list | dict
def Ty6.name : Ty6 → String
  | .int => "int"
  | .bool => "bool"
  | .str => "str"
  | .tuple => "tuple"
  | .list => "list"
  | .dict => "dict"
def tyN : D → String
  | .none => "NoneType"
  | .bool _ => "bool"
  | .int _ => "int"
  | .str _ => "str"
  | .list _ => "list"
  | .tuple _ => "tuple"
  | .dict _ => "dict"
def isTy : Ty6 → D → Bool
  | .int, .int _ => true
  | .int, .bool _ => true
  | .bool, .bool _ => true
  | .str, .str _ => true
  | .tuple, .tuple _ => true
  | .list, .list _ => true
  | .dict, .dict _ => true
  | _, _ => false
theorem kit_isTy (T : Ty6) (d : D) : kitB (tyN d) T.name = some (isTy T d) := by
  cases T <;> cases d <;> (simp only [tyN, isTy, Ty6.name]; decide +kernel)
theorem tyX_of {K : KK} {F H : Hp} {v : V} {d : D} (s : Sub F H) (h : Lk K F H v d) : TyX K H v (.type (tyN d)) := by
  cases d with
  | none => cases h.non; exact .base .non
  | bool b => cases h.bl; exact .base (.bl _)
  | int i => cases h.int; exact .base (.int _)
  | str y => cases h.str.1; exact .base (.str _)
  | list xs => obtain ⟨a, vs, rfl, h1, _⟩ := h.lst s; exact .base (.lst h1)
  | tuple xs =>
    obtain ⟨a, vs, rfl, h1, _⟩ := h.tup s
    rcases h1 with (h1 | ⟨o, h1⟩) | ⟨o, its, n, h1, h2, _⟩
    · exact .base (.tup h1)
    · exact .fTuple h1
    · exact .kTuple h1 h2
  | dict _ =>
    rcases h with h | ⟨_, _, _, _, h, _⟩
    · exact h.undict.elim
    · cases h
def gIsi (T : Ty6) : D → Option XV := fun d => some (.v (.bool (isTy T d)))
section
variable {k : Nat} {c : Ctx} {a b : Expr} {f f1 f2 : Ex} {pos p p2 : Pos} {y : Str}
theorem se_isi (T : Ty6) (hy : y = Str.ofString T.name) (hg : c.sc.names.lookup (Str.ofString "isinstance") = some .globalImplicit) (hm : c.g.mg "isinstance" = none) (hg2 : c.sc.names.lookup y = some .globalImplicit) (hm2 : c.g.mg y = none) (hv : bootBuiltins y = some (.type T.name))
    (h : SE k c a f) (hs : ∀ env, starEach [a, .Name y p2] env = (false, eval a env) :: starEach [.Name y p2] env := by intro _; rfl) (hn : y ≠ "__name__" := by decide) (hdb : (y == ("__debug__" : Str)) = false := by decide) :
    SE k c (.Call (.Name "isinstance" p) [a, .Name y p2] [] pos) (x1 (gIsi T) f) := by
  obtain ⟨⟨t, pp, s⟩⟩ := h
  refine ⟨tCB (rIsi c.g.K) (tCons t (tCons (tC (.ty T.name)) tNil)), fun X hX => ?_, ?_⟩
  · have q := pp X hX
    obtain ⟨⟨TT0, rfl⟩, _⟩ := hX
    exact pe_callB call_isi hg hm PyProof.Rows.boot_isinstance (pa_cons q (pa_cons (pe_bltn hg2 hm2 hv rfl hn hdb) pa_nil) (hs := hs _)) (he := hs _) (hpl := rfl)
  · intro ρ σ H F Q x ρ' G e q
    unfold x1 at e
    rw [Option.bind_eq_some_iff] at e
    obtain ⟨⟨y, ρ1⟩, e1, e⟩ := e
    rw [Option.bind_eq_some_iff] at e
    obtain ⟨d, l, e⟩ := e
    rw [Option.map_eq_some_iff] at e
    obtain ⟨z, e3, e⟩ := e
    cases e
    cases e3
    refine s ρ σ H F _ y _ G e1 fun v H1 F1 G1 E1 r1 => ?_
    exact ⟨v, .ty T.name, .type (tyN d), .type T.name, _, rfl, .ty _, tyX_of G1.sub (look_ok G1 r1 l), kit_ty (kit_isTy T d), q _ H1 F1 G1 E1 (Dq.bl _)⟩
end
theorem Gd.mut {K : KK} {ρ : En} {σ : Sg} {H F : Hp} {i : Nat} {b : Bool} {ct ct' : Ct} {a : Addr} {o : HO} (G : Gd K ρ σ H F) (hi : ρ[i]? = some (.o b ct)) (hs : σ[i]? = some (some (.ref a))) (h' : CtR K F (upd H a o) a ct') :
    Gd K (ρ.set i (.o b ct')) σ (upd H a o) F ∧ Ext ρ σ H F (ρ.set i (.o b ct')) σ (upd H a o) F := by
  have il : i < ρ.length := (List.getElem?_eq_some_iff.mp hi).1
  obtain ⟨a', h1, hF, h3⟩ := G.opn i b ct (.inl hi)
  rw [hs] at h1; cases h1
  have ho : OpenAt ρ σ a := ⟨i, b, ct, hi, hs⟩
  have other : ∀ j, j ≠ i → ∀ a', HeldAt ρ σ j a' → a' ≠ a := fun j hj a' ha z => by
    subst z
    exact hj (G.inj j i a' ha ⟨⟨b, ct, .inl hi⟩, hs⟩)
  have get : ∀ j, (ρ.set i (.o b ct'))[j]? = if j = i then some (.o b ct') else ρ[j]? := fun j => by
    by_cases e : j = i
    · subst e; rw [if_pos rfl, List.getElem?_set_self il]
    · rw [if_neg e, List.getElem?_set_ne (Ne.symm e)]
  have held : ∀ j a', HeldAt (ρ.set i (.o b ct')) σ j a' → HeldAt ρ σ j a' := fun j a' ⟨⟨b1, c1, e⟩, s⟩ => by
    refine ⟨?_, s⟩
    rw [get] at e
    split at e
    · rename_i z; subst z; exact ⟨b, ct, .inl hi⟩
    · exact ⟨b1, c1, e⟩
  have opn : ∀ a', OpenAt (ρ.set i (.o b ct')) σ a' → OpenAt ρ σ a' := fun a' ⟨j, b1, c1, e, s⟩ => by
    rw [get] at e
    split at e
    · rename_i z; subst z; rw [hs] at s; cases s; exact ho
    · exact ⟨j, b1, c1, e, s⟩
  have tb : TbK H (upd H a o) := by
    obtain ⟨u, hu⟩ := h3.some
    exact TbK.upd hu (h3.nt hu) (h3.nc hu)
  refine ⟨⟨by rw [List.length_set]; exact G.len, G.sub.off hF, fun j d e => ?_, fun j ns e => ?_, fun j b1 c1 e => ?_, fun j j' a' x y => G.inj j j' a' (held _ _ x) (held _ _ y), tb _ G.tab.1, G.tab.2⟩,
    ⟨Sub.refl F, fun x u e _ n => ⟨?_, fun z => z⟩, fun x hx => ?_, fun x hx => .inl (opn x hx), fun j c1 e => ⟨?_, rfl⟩, fun j b1 c1 e => ⟨?_, rfl⟩, fun j b1 c1 e => ?_, fun j c1 e => ?_⟩⟩
  · rw [get] at e
    split at e
    · cases e
    · exact G.val j d e
  · rw [get] at e
    split at e
    · cases e
    · exact G.scr j ns e
  · rw [get] at e
    split at e
    · rename_i z; subst z
      rcases e with e | e
      · cases e; exact ⟨a, hs, hF, h'⟩
      · cases e
    · rename_i hj
      obtain ⟨a', q1, q2, q3⟩ := G.opn j b1 c1 e
      have ne := other j hj a' ⟨⟨b1, c1, e⟩, q1⟩
      exact ⟨a', q1, q2, q3.mono (Sub.refl F) fun u z => by rw [upd_ne ne]; exact z⟩
  · rw [upd_ne (fun z => n (by rw [z]; exact ho))]; exact e
  · intro z
    by_cases hx' : x = a
    · rw [hx', upd_same] at z; cases z
    · rw [upd_ne hx'] at z; exact hx z
  · rw [get]
    split
    · rename_i z; subst z; rw [hi] at e; cases e; exact ⟨_, rfl⟩
    · exact ⟨c1, e⟩
  · rw [get]
    split
    · rename_i z; subst z; rw [hi] at e; cases e
    · exact e
  · rw [get] at e
    split at e
    · cases e
    · exact e
  · rw [get] at e
    split at e
    · rename_i z; subst z; cases e; exact ⟨_, hi⟩
    · exact ⟨_, e⟩
def xapp (i : Nat) (f : Ex) : Ex := fun ρ => match ρ[i]? with
  | some (.o _ (.l _)) => (stl f ρ).bind fun p => match p.1, p.2[i]? with
    | .v d, some (.o b (.l ds)) => if ds.length < sizeLine then some (.v .none, p.2.set i (.o b (.l (ds ++ [d])))) else none
    | _, _ => none
  | _ => none
def xext (i : Nat) (f : Ex) : Ex := fun ρ => match ρ[i]? with
  | some (.o _ (.l _)) => (f ρ).bind fun p => match look p.2 p.1, p.2[i]? with
    | some (.list es), some (.o b (.l ds)) => if ds.length + es.length ≤ sizeLine then some (.v .none, p.2.set i (.o b (.l (ds ++ es)))) else none
    | _, _ => none
  | _ => none
def xpop (i : Nat) : Ex := fun ρ => match ρ[i]? with
  | some (.o b (.l ds)) => (ds[ds.length - 1]?).map fun d => (.v d, ρ.set i (.o b (.l ds.dropLast)))
  | _ => none
def xpopAt (i : Nat) (f : Ex) : Ex := fun ρ => match ρ[i]? with
  | some (.o _ (.l _)) => (f ρ).bind fun p => match p.1, p.2[i]? with
    | .v (.int j), some (.o b (.l ds)) => (ixN ds.length j).bind fun k => (ds[k]?).map fun d => (.v d, p.2.set i (.o b (.l (ds.eraseIdx k))))
    | _, _ => none
  | _ => none
section
variable {k : Nat} {c : Ctx} {a b : Expr} {f f1 f2 : Ex} {pos p p2 : Pos} {y : Str}
theorem line63' : sizeLine < 2 ^ 63 := by rw [sizeLine_eq]; decide
theorem Dqs.dropLast {K : KK} {F : Hp} {vs : List V} {ds : List D} (h : Dqs K F vs ds) : Dqs K F vs.dropLast ds.dropLast := by
  rw [List.dropLast_eq_take, List.dropLast_eq_take, h.length]; exact h.take _
theorem se_app (i : Nat) {x : Str} {ap : Pos} (hN : c.N[i]? = some x) (hv : Vis c.sc x) (h : SE k c a f) (hs : ∀ env, starEach [a] env = [(false, eval a env)] := by intro _; rfl)
    (hline : (ap.endLine == pos.line) = true := by rfl) (hd : (x == ("__debug__" : Str)) = false := by decide) (hcd : (x == ("__classdict__" : Str)) = false := by decide) : SE k c (.Call (.Attribute (.Name x p) "append" ap) [a] [] pos) (xapp i f) := by
  obtain ⟨⟨t, pp, s⟩⟩ := h
  refine ⟨tBM c.g.K "list" rAppend (tVar i) (tCons t tNil), fun X hX => ?_, ?_⟩
  · have q := pp X hX
    obtain ⟨⟨TT0, rfl⟩, _⟩ := hX
    exact pe_bm PySem.F.plainAttrs_list PySem.F.slot_list_append PySem.F.type_list_append mt_append (pe_var hN hv hd hcd) (pa_cons q pa_nil (hs := star1 a _ (hs _))) (hfew := by rw [hs _]; rfl) (hline := hline) (hs := star1 a _ (hs _)) (hplain := rfl)
  · intro ρ σ H F Q z ρ' G e q
    unfold xapp at e
    split at e
    · rename_i b0 ds0 h0
      rw [Option.bind_eq_some_iff] at e
      obtain ⟨⟨y1, ρ1⟩, e1, e⟩ := e
      simp only at e
      split at e
      · rename_i d b1 ds1 h2
        split at e
        · rename_i hl
          cases e
          obtain ⟨a0, hs0, _, vs0, hH0, _⟩ := G.opn i _ _ (.inl h0)
          refine ⟨_, hs0, .inl ⟨rfl, vs0, .inl (.inl hH0)⟩, s.stl ρ σ H F _ _ ρ1 G e1 fun v H1 F1 G1 E1 r1 => ?_⟩
          obtain ⟨a1, hs1, hF1, vs1, hH1, hd1, hl1⟩ := G1.opn i _ _ (.inl h2)
          rw [hs0] at hs1; cases hs1
          refine ⟨a0, vs1, v, rfl, rfl, hH1, by rw [hd1.length]; exact hl, ?_⟩
          have M := G1.mut (o := .lst (vs1 ++ [v])) (ct' := .l (ds1 ++ [d])) h2 hs0 ⟨_, upd_same, hd1.append (.cons r1 .nil), by rw [List.length_append]; exact hl⟩
          exact q _ _ F1 M.1 (E1.trans M.2) Dq.non
        · cases e
      · cases e
    · cases e
theorem se_popAt (i : Nat) {x : Str} {ap : Pos} (hN : c.N[i]? = some x) (hv : Vis c.sc x) (h : SE k c a f) (hs : ∀ env, starEach [a] env = [(false, eval a env)] := by intro _; rfl)
    (hline : (ap.endLine == pos.line) = true := by rfl) (hd : (x == ("__debug__" : Str)) = false := by decide) (hcd : (x == ("__classdict__" : Str)) = false := by decide) : SE k c (.Call (.Attribute (.Name x p) "pop" ap) [a] [] pos) (xpopAt i f) := by
  obtain ⟨⟨t, pp, s⟩⟩ := h
  refine ⟨tBM c.g.K "list" rPopAt (tVar i) (tCons t tNil), fun X hX => ?_, ?_⟩
  · have q := pp X hX
    obtain ⟨⟨TT0, rfl⟩, _⟩ := hX
    exact pe_bm PySem.F.plainAttrs_list PySem.F.slot_list_pop PySem.F.type_list_pop mt_popAt (pe_var hN hv hd hcd) (pa_cons q pa_nil (hs := star1 a _ (hs _))) (hfew := by rw [hs _]; rfl) (hline := hline) (hs := star1 a _ (hs _)) (hplain := rfl)
  · intro ρ σ H F Q z ρ' G e q
    unfold xpopAt at e
    split at e
    · rename_i b0 ds0 h0
      rw [Option.bind_eq_some_iff] at e
      obtain ⟨⟨y1, ρ1⟩, e1, e⟩ := e
      simp only at e
      split at e
      · rename_i j b1 ds1 h2
        rw [Option.bind_eq_some_iff] at e
        obtain ⟨n, e2, e⟩ := e
        rw [Option.map_eq_some_iff] at e
        obtain ⟨d, e3, e⟩ := e
        cases e
        obtain ⟨a0, hs0, _, vs0, hH0, _⟩ := G.opn i _ _ (.inl h0)
        refine ⟨_, hs0, .inl ⟨rfl, vs0, .inl (.inl hH0)⟩, s ρ σ H F _ _ ρ1 G e1 fun v H1 F1 G1 E1 r1 => ?_⟩
        obtain ⟨a1, hs1, hF1, vs1, hH1, hd1, hl1⟩ := G1.opn i _ _ (.inl h2)
        rw [hs0] at hs1; cases hs1
        obtain ⟨w, hw1, hw2⟩ := hd1.get e3
        rw [← hd1.length] at e2
        obtain ⟨q1, q2, q3, q4⟩ := ixN_seq e2
        have hz := hd1.length
        have l63 := line63'
        refine ⟨a0, vs1, j, n, w, rfl, by rw [Dq.unint r1], hH1, by omega, by omega, q1, hw1, ?_⟩
        have M := G1.mut (o := .lst (vs1.eraseIdx n)) (ct' := .l (ds1.eraseIdx n)) h2 hs0 ⟨_, upd_same, hd1.eraseIdx n, Nat.le_trans (List.length_eraseIdx_le ..) hl1⟩
        exact q _ _ F1 M.1 (E1.trans M.2) hw2
      · cases e
    · cases e
end
inductive CR where
  | ok (x : XV) (outs : En)
  | ex (n : Str)
abbrev Calls := Str → En → Option CR
def spC (g : Gb) (C : Calls) (x : Str) : Sp := fun vs H Q E => ∃ (F : Hp) (args : En) (r : CR), Gd g.K args (vs.map some) H F ∧ C x args = some r ∧ match r with
  | .ok z outs => ∀ v H' F', Gd g.K outs (vs.map some) H' F' → Ext args (vs.map some) H F outs (vs.map some) H' F' → XR g.K H outs (vs.map some) H' F' v z → Q v H'
  | .ex n => ∃ Cl, g.mg n = some (.ref Cl) ∧ ∀ H' outs F', Gd g.K outs (vs.map some) H' F' → Ext args (vs.map some) H F outs (vs.map some) H' F' → E (.ref Cl) none H'
structure FnIn (g : Gb) (k : Nat) (C : Calls) (x : Str) : Prop where
  ex : ∃ (f : Addr) (fd : FuncData) (ps : List Str), FnOk g.prog g.w g.K g.mg g.base (L2.CX g.prog g.w) k f fd ps (spC g C x) ∧ g.mg x = some (.ref f) ∧ PySem.W.keepIn g.K (.ref f) = true ∧ Binds g.K fd ps []
def toSl (ρ : En) : XV → Option Sl
  | .v d => some (.v d)
  | .sl i => match ρ[i]? with
    | some (.v d) => some (.v d)
    | some (.o _ ct) => some (.o true ct)
    | some (.k _ ct) => some (.k true ct)
    | some (.r ns) => some (.r ns)
    | _ => none
  | .fr _ => none
def toSls (ρ : En) : List XV → Option En
  | [] => some []
  | x :: xs => (toSl ρ x).bind fun s => (toSls ρ xs).map (s :: ·)
def slIx : List XV → List Nat
  | [] => []
  | .sl i :: xs => i :: slIx xs
  | _ :: xs => slIx xs
def back : En → List XV → En → En
  | ρ, .sl i :: xs, s :: ss => match ρ[i]?, s with
    | some (.o b _), .o _ ct => back (ρ.set i (.o b ct)) xs ss
    | _, _ => back ρ xs ss
  | ρ, _ :: xs, _ :: ss => back ρ xs ss
  | ρ, _, _ => ρ
def nodupB : List Nat → Bool
  | [] => true
  | x :: xs => !xs.contains x && nodupB xs
theorem nodupB_ok : ∀ {l : List Nat}, nodupB l = true → l.Nodup
  | [], _ => .nil
  | x :: xs, h => by
    unfold nodupB at h
    simp only [Bool.and_eq_true, Bool.not_eq_true', List.contains_eq_mem, decide_eq_false_iff_not] at h
    exact List.nodup_cons.mpr ⟨h.1, nodupB_ok h.2⟩
def xcall (C : Calls) (x : Str) (fs : AEx) : Ex := fun ρ => (fs ρ).bind fun p => if nodupB (slIx p.1) = true then (toSls p.2 p.1).bind fun args => match C x args with
  | some (.ok z outs) => match z with
    | .v d => some (.v d, back p.2 p.1 outs)
    | .fr ct => some (.fr ct, back p.2 p.1 outs)
    | .sl _ => none
  | _ => none else none
theorem toSls_get : ∀ {ρ : En} {xs : List XV} {args : En} {j : Nat} {s : Sl}, toSls ρ xs = some args → args[j]? = some s → ∃ x, xs[j]? = some x ∧ toSl ρ x = some s
  | ρ, [], args, j, s, e, h => by cases e; simp at h
  | ρ, x :: xs, args, j, s, e, h => by
    unfold toSls at e
    rw [Option.bind_eq_some_iff] at e
    obtain ⟨s0, e0, e⟩ := e
    rw [Option.map_eq_some_iff] at e
    obtain ⟨args', e1, rfl⟩ := e
    cases j with
    | zero => simp at h; subst h; exact ⟨x, rfl, e0⟩
    | succ j => exact toSls_get (j := j) e1 (by simpa using h)
theorem toSls_len : ∀ {ρ : En} {xs : List XV} {args : En}, toSls ρ xs = some args → args.length = xs.length
  | ρ, [], args, e => by cases e; rfl
  | ρ, x :: xs, args, e => by
    unfold toSls at e
    rw [Option.bind_eq_some_iff] at e
    obtain ⟨s0, e0, e⟩ := e
    rw [Option.map_eq_some_iff] at e
    obtain ⟨args', e1, rfl⟩ := e
    simp only [List.length_cons, toSls_len e1]
theorem toSls_at : ∀ {ρ : En} {xs : List XV} {args : En} {j : Nat} {x : XV}, toSls ρ xs = some args → xs[j]? = some x → ∃ s, args[j]? = some s ∧ toSl ρ x = some s
  | ρ, [], args, j, x, e, h => by simp at h
  | ρ, y :: xs, args, j, x, e, h => by
    unfold toSls at e
    rw [Option.bind_eq_some_iff] at e
    obtain ⟨s0, e0, e⟩ := e
    rw [Option.map_eq_some_iff] at e
    obtain ⟨args', e1, rfl⟩ := e
    cases j with
    | zero => simp at h; subst h; exact ⟨s0, rfl, e0⟩
    | succ j =>
      obtain ⟨s, h1, h2⟩ := toSls_at (j := j) e1 (by simpa using h)
      exact ⟨s, by simpa using h1, h2⟩
theorem slIx_mem : ∀ {xs : List XV} {i j : Nat}, xs[j]? = some (.sl i) → i ∈ slIx xs
  | [], i, j, h => by simp at h
  | x :: xs, i, 0, h => by simp at h; subst h; unfold slIx; exact List.mem_cons_self
  | x :: xs, i, j + 1, h => by
    have q := slIx_mem (xs := xs) (i := i) (j := j) (by simpa using h)
    unfold slIx; cases x with
    | sl _ => exact List.mem_cons_of_mem _ q
    | v _ => exact q
    | fr _ => exact q
theorem slIx_of : ∀ {xs : List XV} {i : Nat}, i ∈ slIx xs → ∃ j : Nat, xs[j]? = some (.sl i)
  | [], i, h => by unfold slIx at h; cases h
  | x :: xs, i, h => by
    unfold slIx at h
    cases x with
    | sl k =>
      rcases List.mem_cons.mp h with rfl | h
      · exact ⟨0, rfl⟩
      · obtain ⟨j, q⟩ := slIx_of h; exact ⟨j + 1, by simpa using q⟩
    | v _ => obtain ⟨j, q⟩ := slIx_of h; exact ⟨j + 1, by simpa using q⟩
    | fr _ => obtain ⟨j, q⟩ := slIx_of h; exact ⟨j + 1, by simpa using q⟩
theorem slIx_inj : ∀ {xs : List XV} {i j j' : Nat}, (slIx xs).Nodup → xs[j]? = some (.sl i) → xs[j']? = some (.sl i) → j = j'
  | [], i, j, j', _, h, _ => by simp at h
  | x :: xs, i, 0, 0, _, _, _ => rfl
  | x :: xs, i, 0, j' + 1, n, h, h' => by
    simp at h; subst h
    unfold slIx at n
    exact absurd (slIx_mem (xs := xs) (by simpa using h')) (List.nodup_cons.mp n).1
  | x :: xs, i, j + 1, 0, n, h, h' => by
    simp at h'; subst h'
    unfold slIx at n
    exact absurd (slIx_mem (xs := xs) (by simpa using h)) (List.nodup_cons.mp n).1
  | x :: xs, i, j + 1, j' + 1, n, h, h' => by
    have n' : (slIx xs).Nodup := by
      unfold slIx at n
      cases x with
      | sl _ => exact (List.nodup_cons.mp n).2
      | v _ => exact n
      | fr _ => exact n
    have q1 : xs[j]? = some (.sl i) := by simpa using h
    have q2 : xs[j']? = some (.sl i) := by simpa using h'
    rw [slIx_inj n' q1 q2]
theorem back_len : ∀ (ρ : En) (xs : List XV) (ss : En), (back ρ xs ss).length = ρ.length
  | ρ, [], ss => by cases ss <;> simp [back]
  | ρ, .v _ :: xs, [] => by simp [back]
  | ρ, .fr _ :: xs, [] => by simp [back]
  | ρ, .sl _ :: xs, [] => by simp [back]
  | ρ, .v _ :: xs, s :: ss => by simp only [back]; exact back_len ρ xs ss
  | ρ, .fr _ :: xs, s :: ss => by simp only [back]; exact back_len ρ xs ss
  | ρ, .sl i :: xs, s :: ss => by
    simp only [back]
    split
    · rw [back_len, List.length_set]
    · exact back_len ρ xs ss
theorem back_get : ∀ (ρ : En) (xs : List XV) (ss : En) (i : Nat), (back ρ xs ss)[i]? = ρ[i]? ∨ ∃ b c ct, ρ[i]? = some (.o b c) ∧ (back ρ xs ss)[i]? = some (.o b ct)
  | ρ, [], ss, i => by cases ss <;> simp [back]
  | ρ, .v _ :: xs, [], i => by simp [back]
  | ρ, .fr _ :: xs, [], i => by simp [back]
  | ρ, .sl _ :: xs, [], i => by simp [back]
  | ρ, .v _ :: xs, s :: ss, i => by simp only [back]; exact back_get ρ xs ss i
  | ρ, .fr _ :: xs, s :: ss, i => by simp only [back]; exact back_get ρ xs ss i
  | ρ, .sl n :: xs, s :: ss, i => by
    simp only [back]
    split
    · rename_i b c ct b' h1
      have il : n < ρ.length := (List.getElem?_eq_some_iff.mp h1).1
      by_cases e : i = n
      · subst e
        rcases back_get (ρ.set i (.o b b')) xs ss i with q | ⟨b2, c2, ct2, q1, q2⟩
        · rw [List.getElem?_set_self il] at q
          exact .inr ⟨b, c, _, h1, q⟩
        · rw [List.getElem?_set_self il] at q1
          cases q1
          exact .inr ⟨b, c, _, h1, q2⟩
      · rcases back_get (ρ.set n (.o b b')) xs ss i with q | ⟨b2, c2, ct2, q1, q2⟩
        · rw [List.getElem?_set_ne (Ne.symm e)] at q
          exact .inl q
        · rw [List.getElem?_set_ne (Ne.symm e)] at q1
          exact .inr ⟨b2, c2, _, q1, q2⟩
    · exact back_get ρ xs ss i
theorem back_miss : ∀ (ρ : En) (xs : List XV) (ss : En) (i : Nat), i ∉ slIx xs → (back ρ xs ss)[i]? = ρ[i]?
  | ρ, [], ss, i, _ => by cases ss <;> simp [back]
  | ρ, .v _ :: xs, [], i, _ => by simp [back]
  | ρ, .fr _ :: xs, [], i, _ => by simp [back]
  | ρ, .sl _ :: xs, [], i, _ => by simp [back]
  | ρ, .v _ :: xs, s :: ss, i, h => by simp only [back]; exact back_miss ρ xs ss i (by simpa [slIx] using h)
  | ρ, .fr _ :: xs, s :: ss, i, h => by simp only [back]; exact back_miss ρ xs ss i (by simpa [slIx] using h)
  | ρ, .sl n :: xs, s :: ss, i, h => by
    simp only [slIx, List.mem_cons, not_or] at h
    simp only [back]
    split
    · rw [back_miss _ xs ss i h.2, List.getElem?_set_ne (Ne.symm h.1)]
    · exact back_miss ρ xs ss i h.2
theorem back_hit : ∀ (ρ : En) (xs : List XV) (ss : En) (i j : Nat) (b b' : Bool) (c ct : Ct), (slIx xs).Nodup → xs[j]? = some (.sl i) → ρ[i]? = some (.o b c) → ss[j]? = some (.o b' ct) → (back ρ xs ss)[i]? = some (.o b ct)
  | ρ, [], ss, i, j, b, b', c, ct, _, h, _, _ => by simp at h
  | ρ, x :: xs, [], i, j, b, b', c, ct, _, _, _, h => by simp at h
  | ρ, x :: xs, s :: ss, i, 0, b, b', c, ct, n, h, h1, h2 => by
    simp at h h2; subst h h2
    have il : i < ρ.length := (List.getElem?_eq_some_iff.mp h1).1
    unfold slIx at n
    simp only [back, h1]
    rw [back_miss _ xs ss i (List.nodup_cons.mp n).1, List.getElem?_set_self il]
  | ρ, x :: xs, s :: ss, i, j + 1, b, b', c, ct, n, h, h1, h2 => by
    have hx : xs[j]? = some (.sl i) := by simpa using h
    have hs : ss[j]? = some (.o b' ct) := by simpa using h2
    cases x with
    | v _ => simp only [back]; exact back_hit ρ xs ss i j b b' c ct (by simpa [slIx] using n) hx h1 hs
    | fr _ => simp only [back]; exact back_hit ρ xs ss i j b b' c ct (by simpa [slIx] using n) hx h1 hs
    | sl m =>
      unfold slIx at n
      have hm : i ≠ m := fun z => by subst z; exact (List.nodup_cons.mp n).1 (slIx_mem hx)
      simp only [back]
      split
      · exact back_hit _ xs ss i j b b' c ct (List.nodup_cons.mp n).2 hx (by rw [List.getElem?_set_ne (Ne.symm hm)]; exact h1) hs
      · exact back_hit ρ xs ss i j b b' c ct (List.nodup_cons.mp n).2 hx h1 hs
section
variable {K : KK} {ρ : En} {σ : Sg} {H0 H F : Hp} {vs : List V} {xs : List XV} {args : En}
theorem map_some_get {vs : List V} {j : Nat} {w : Option V} (h : (vs.map some)[j]? = some w) : ∃ v, w = some v ∧ vs[j]? = some v := by
  rw [List.getElem?_map] at h
  cases q : vs[j]? with
  | none => rw [q] at h; cases h
  | some v => rw [q] at h; cases h; exact ⟨v, rfl, rfl⟩
theorem args_held (A : AR K H0 ρ σ H F vs xs) (e : toSls ρ xs = some args) {j : Nat} {a : Addr} (h : HeldAt args (vs.map some) j a) : ∃ i : Nat, xs[j]? = some (.sl i) ∧ HeldAt ρ σ i a := by
  obtain ⟨⟨b, c, hs⟩, hv⟩ := h
  obtain ⟨v, rfl', hv'⟩ := map_some_get hv
  cases rfl'
  have main : ∀ s, args[j]? = some s → (s = .o b c ∨ s = .k b c) → ∃ i : Nat, xs[j]? = some (.sl i) ∧ HeldAt ρ σ i a := fun s hs hk => by
    obtain ⟨x, hx, ht⟩ := toSls_get e hs
    obtain ⟨w, hw, hr⟩ := A.get hx
    rw [hv'] at hw; cases hw
    cases x with
    | v d => simp only [toSl, Option.some.injEq] at ht; subst ht; rcases hk with z | z <;> cases z
    | fr ct => cases ht
    | sl i =>
      refine ⟨i, hx, ?_, hr⟩
      simp only [toSl] at ht
      split at ht
      · cases ht; rcases hk with z | z <;> cases z
      · rename_i b' c' q; exact ⟨b', c', .inl q⟩
      · rename_i b' c' q; exact ⟨b', c', .inr q⟩
      · cases ht; rcases hk with z | z <;> cases z
      · cases ht
  rcases hs with hs | hs
  · exact main _ hs (.inl rfl)
  · exact main _ hs (.inr rfl)
theorem args_open (A : AR K H0 ρ σ H F vs xs) (e : toSls ρ xs = some args) {a : Addr} (h : OpenAt args (vs.map some) a) : ∃ (i j : Nat) (b : Bool) (c : Ct), xs[j]? = some (.sl i) ∧ ρ[i]? = some (.o b c) ∧ σ[i]? = some (some (.ref a)) := by
  obtain ⟨j, b, c, hs, hv⟩ := h
  obtain ⟨i, hx, _, hσ⟩ := args_held A e ⟨⟨b, c, .inl hs⟩, hv⟩
  obtain ⟨s, h1, h2⟩ := toSls_at e hx
  rw [hs] at h1; cases h1
  simp only [toSl] at h2
  split at h2
  · cases h2
  · rename_i b' c' q; exact ⟨i, j, b', c', hx, q, hσ⟩
  · cases h2
  · cases h2
  · cases h2
theorem args_gd (G : Gd K ρ σ H F) (A : AR K H0 ρ σ H F vs xs) (e : toSls ρ xs = some args) (n : (slIx xs).Nodup) : Gd K args (vs.map some) H F := by
  have val : ∀ (j : Nat) (s : Sl), args[j]? = some s → ∃ v, (vs.map some)[j]? = some (some v) ∧ ((∃ d, s = .v d ∧ Dq K F v d) ∨ ∃ i, xs[j]? = some (.sl i) ∧ σ[i]? = some (some v) ∧ ((∃ d, s = .v d ∧ ρ[i]? = some (.v d)) ∨ (∃ b c, s = .o true c ∧ ρ[i]? = some (.o b c)) ∨ (∃ b c, s = .k true c ∧ ρ[i]? = some (.k b c)) ∨ ∃ ns, s = .r ns ∧ ρ[i]? = some (.r ns))) := fun j s hs => by
    obtain ⟨x, hx, ht⟩ := toSls_get e hs
    obtain ⟨w, hw, hr⟩ := A.get hx
    refine ⟨w, by rw [List.getElem?_map, hw]; rfl, ?_⟩
    cases x with
    | v d => simp only [toSl, Option.some.injEq] at ht; subst ht; exact .inl ⟨d, rfl, hr⟩
    | fr ct => cases ht
    | sl i =>
      refine .inr ⟨i, hx, hr, ?_⟩
      simp only [toSl] at ht
      split at ht
      · rename_i d q; cases ht; exact .inl ⟨d, rfl, q⟩
      · rename_i b c q; cases ht; exact .inr (.inl ⟨b, c, rfl, q⟩)
      · rename_i b c q; cases ht; exact .inr (.inr (.inl ⟨b, c, rfl, q⟩))
      · rename_i ns q; cases ht; exact .inr (.inr (.inr ⟨ns, rfl, q⟩))
      · cases ht
  refine ⟨by rw [List.length_map, A.length, toSls_len e], G.sub, fun j d hs => ?_, fun j ns hs => ?_, fun j b c hs => ?_, fun j j' a h1 h2 => ?_, G.tab⟩
  · obtain ⟨v, h1, h2⟩ := val j _ hs
    refine ⟨v, h1, ?_⟩
    rcases h2 with ⟨d', z, h2⟩ | ⟨i, _, hσ, ⟨d', z, q⟩ | ⟨_, _, z, _⟩ | ⟨_, _, z, _⟩ | ⟨_, z, _⟩⟩
    · cases z; exact h2
    · cases z
      obtain ⟨w, q1, q2⟩ := G.val i d q
      rw [hσ] at q1; cases q1; exact q2
    · cases z
    · cases z
    · cases z
  · obtain ⟨v, h1, h2⟩ := val j _ hs
    rcases h2 with ⟨d', z, h2⟩ | ⟨i, _, hσ, ⟨d', z, q⟩ | ⟨_, _, z, _⟩ | ⟨_, _, z, _⟩ | ⟨_, z, q⟩⟩
    · cases z
    · cases z
    · cases z
    · cases z
    · cases z
      obtain ⟨w, q1, q2, q3⟩ := G.scr i ns q
      rw [hσ] at q1; cases q1
      exact ⟨w, h1, q2, q3⟩
  · have go : ∀ s, args[j]? = some s → (s = .o b c ∨ s = .k b c) → ∃ a, (vs.map some)[j]? = some (some (.ref a)) ∧ F a = none ∧ CtR K F H a c := fun s hs hk => by
      obtain ⟨v, h1, h2⟩ := val j _ hs
      rcases h2 with ⟨d', z, h2⟩ | ⟨i, _, hσ, ⟨d', z, q⟩ | ⟨b', c', z, q⟩ | ⟨b', c', z, q⟩ | ⟨_, z, q⟩⟩
      · subst z; rcases hk with z | z <;> cases z
      · subst z; rcases hk with z | z <;> cases z
      · have : c' = c := by subst z; rcases hk with z | z <;> cases z; rfl
        subst this
        obtain ⟨a, q1, q2, q3⟩ := G.opn i b' c' (.inl q)
        rw [hσ] at q1; cases q1
        exact ⟨a, h1, q2, q3⟩
      · have : c' = c := by subst z; rcases hk with z | z <;> cases z; rfl
        subst this
        obtain ⟨a, q1, q2, q3⟩ := G.opn i b' c' (.inr q)
        rw [hσ] at q1; cases q1
        exact ⟨a, h1, q2, q3⟩
      · subst z; rcases hk with z | z <;> cases z
    rcases hs with hs | hs
    · exact go _ hs (.inl rfl)
    · exact go _ hs (.inr rfl)
  · obtain ⟨i, x1, y1⟩ := args_held A e h1
    obtain ⟨i', x2, y2⟩ := args_held A e h2
    have := G.inj i i' a y1 y2
    subst this
    exact slIx_inj n x1 x2
theorem back_gd {outs : En} {H' F' : Hp} (G : Gd K ρ σ H F) (A : AR K H0 ρ σ H F vs xs) (e : toSls ρ xs = some args) (n : (slIx xs).Nodup) (G' : Gd K outs (vs.map some) H' F') (E : Ext args (vs.map some) H F outs (vs.map some) H' F') :
    Gd K (back ρ xs outs) σ H' F' ∧ Ext ρ σ H F (back ρ xs outs) σ H' F' := by
  have opn0 : ∀ a, OpenAt args (vs.map some) a → OpenAt ρ σ a := fun a h => by
    obtain ⟨i, j, b, c, _, h1, h2⟩ := args_open A e h
    exact ⟨i, b, c, h1, h2⟩
  have keep : ∀ (i : Nat) (a : Addr), HeldAt ρ σ i a → (i ∉ slIx xs ∨ ∃ (b : Bool) (c : Ct), ρ[i]? = some (.k b c)) → ¬ OpenAt args (vs.map some) a := fun i a hi hn ho => by
    obtain ⟨i', j, b, c, h0, h1, h2⟩ := args_open A e ho
    have := G.inj i i' a hi ⟨⟨b, c, .inl h1⟩, h2⟩
    subst this
    rcases hn with hn | ⟨b2, c2, hn⟩
    · exact hn (slIx_mem h0)
    · rw [h1] at hn; cases hn
  have nk : ∀ (i : Nat) (b : Bool) (c : Ct), (back ρ xs outs)[i]? = some (.k b c) → ρ[i]? = some (.k b c) := fun i b c h => by
    rcases back_get ρ xs outs i with q | ⟨b', c', ct, q1, q2⟩
    · rw [q] at h; exact h
    · rw [q2] at h; cases h
  have no : ∀ (i : Nat) (b : Bool) (c : Ct), (back ρ xs outs)[i]? = some (.o b c) → ∃ c0 : Ct, ρ[i]? = some (.o b c0) := fun i b c h => by
    rcases back_get ρ xs outs i with q | ⟨b', c', ct, q1, q2⟩
    · rw [q] at h; exact ⟨c, h⟩
    · rw [q2] at h; cases h; exact ⟨c', q1⟩
  have held : ∀ i a, HeldAt (back ρ xs outs) σ i a → HeldAt ρ σ i a := fun i a ⟨⟨b, c, h⟩, s⟩ => by
    refine ⟨?_, s⟩
    rcases h with h | h
    · obtain ⟨c0, q⟩ := no i b c h; exact ⟨b, c0, .inl q⟩
    · exact ⟨b, c, .inr (nk i b c h)⟩
  refine ⟨⟨by rw [back_len]; exact G.len, G'.sub, fun i d h => ?_, fun i ns h => ?_, fun i b c h => ?_, fun i j a x y => G.inj i j a (held i a x) (held j a y), G'.tab⟩, ⟨E.fz, fun a o h nt hn => E.keep a o h nt fun z => hn (opn0 a z), E.dom, fun a ⟨i, b, c, h, s⟩ => ?_, fun i c h => ⟨?_, rfl⟩, fun i b c h => ⟨?_, rfl⟩, nk, fun i c h => no i true c h⟩⟩
  · rcases back_get ρ xs outs i with q | ⟨b', c', ct, q1, q2⟩
    · rw [q] at h
      obtain ⟨v, h1, h2⟩ := G.val i d h
      exact ⟨v, h1, h2.sub E.fz⟩
    · rw [q2] at h; cases h
  · rcases back_get ρ xs outs i with q | ⟨b', c', ct, q1, q2⟩
    · rw [q] at h
      obtain ⟨v, h1, h2, h3⟩ := G.scr i ns h
      exact ⟨v, h1, sqL_sub E.fz h2, h3⟩
    · rw [q2] at h; cases h
  · rcases h with h | h
    · obtain ⟨c0, q⟩ := no i b c h
      obtain ⟨a, h1, h2, h3⟩ := G.opn i b c0 (.inl q)
      by_cases hm : i ∈ slIx xs
      · obtain ⟨j, hj⟩ := slIx_of hm
        obtain ⟨s, hs1, hs2⟩ := toSls_at e hj
        simp only [toSl, q, Option.some.injEq] at hs2
        subst hs2
        obtain ⟨⟨c1, hb⟩, _⟩ := E.bor j c0 hs1
        have hh := back_hit ρ xs outs i j b true c0 c1 n hj q hb
        rw [h] at hh; cases hh
        obtain ⟨a', p1, p2, p3⟩ := G'.opn j true c (.inl hb)
        obtain ⟨v, e1, hv⟩ := map_some_get p1
        cases e1
        obtain ⟨w, hw, hr⟩ := A.get hj
        rw [hv] at hw; cases hw
        exact ⟨a', hr, p2, p3⟩
      · rw [back_miss ρ xs outs i hm, q] at h
        cases h
        obtain ⟨o, ho⟩ := h3.some
        obtain ⟨k1, k2⟩ := E.keep a o ho (h3.nt ho) (keep i a ⟨⟨b, c, .inl q⟩, h1⟩ (.inl hm))
        exact ⟨a, h1, k2 h2, h3.mono E.fz fun u z => by rw [ho] at z; cases z; exact k1⟩
    · have q := nk i b c h
      obtain ⟨a, h1, h2, h3⟩ := G.opn i b c (.inr q)
      obtain ⟨o, ho⟩ := h3.some
      obtain ⟨k1, k2⟩ := E.keep a o ho (h3.nt ho) (keep i a ⟨⟨b, c, .inr q⟩, h1⟩ (.inr ⟨b, c, q⟩))
      exact ⟨a, h1, k2 h2, h3.mono E.fz fun u z => by rw [ho] at z; cases z; exact k1⟩
  · obtain ⟨c0, q⟩ := no i b c h
    exact .inl ⟨i, b, c0, q, s⟩
  · rcases back_get ρ xs outs i with q | ⟨b', c', ct, q1, q2⟩
    · exact ⟨c, by rw [q]; exact h⟩
    · rw [h] at q1; cases q1; exact ⟨ct, q2⟩
  · rcases back_get ρ xs outs i with q | ⟨b', c', ct, q1, q2⟩
    · rw [q]; exact h
    · rw [h] at q1; cases q1
end
section
variable {k : Nat} {c : Ctx} {C : Calls} {a : Expr} {es : List Expr} {fs : AEx} {pos p : Pos} {x : Str}
theorem snd_call {g : Gb} {t : TA} (h : SndA g.K t fs) : SndE g.K (tCall (spC g C x) [] E0 t) (xcall C x fs) := by
  intro ρ σ H F Q z ρ' G e q
  unfold xcall at e
  rw [Option.bind_eq_some_iff] at e
  obtain ⟨⟨xs, ρ1⟩, e1, e⟩ := e
  split at e
  · rename_i hn
    rw [Option.bind_eq_some_iff] at e
    obtain ⟨args, e2, e⟩ := e
    refine h ρ σ H F _ xs ρ1 G e1 fun vs H1 F1 G1 E1 r1 _ => ?_
    have n := nodupB_ok hn
    have GA := args_gd G1 r1 e2 n
    simp only at e
    split at e
    · rename_i z0 outs hc
      rw [List.append_nil]
      refine ⟨F1, args, .ok z0 outs, GA, hc, fun v H' F' G' E' r' => ?_⟩
      obtain ⟨B1, B2⟩ := back_gd G1 r1 e2 n G' E'
      cases z0 with
      | v d => cases e; exact q v H' F' B1 (E1.trans B2) r'
      | sl i => cases e
      | fr ct =>
        cases e
        obtain ⟨a, h1, h2, h3, h4, h5⟩ := r'
        refine q v H' F' B1 (E1.trans B2) ⟨a, h1, none_back E1.dom h2, h3, h4, fun i hi => ?_⟩
        have hi' : HeldAt ρ1 σ i a := by
          obtain ⟨⟨b, c, h⟩, s⟩ := hi
          refine ⟨?_, s⟩
          rcases back_get ρ1 xs outs i with q | ⟨b', c', ct, q1, q2⟩
          · rw [q] at h; exact ⟨b, c, h⟩
          · exact ⟨b', c', .inl q1⟩
        exact G1.fresh h2 i hi'
    · cases e
  · cases e
theorem se_call (hf : FnIn c.g k C x) (hg : c.sc.names.lookup x = some .globalImplicit) (h : SA k c (a :: es) fs) (hs : ∀ env, starEach (a :: es) env = (false, eval a env) :: starEach es env := by intro _; rfl)
    (hpl : ∀ (env : Env) (pos : Pos), (backTo pos (starEach es env)).any (·.1) = false := by intro _ _; rfl) (hdb : (x == ("__debug__" : Str)) = false := by decide) (hcm : c.calm = true := by rfl) : SE k c (.Call (.Name x p) (a :: es) [] pos) (xcall C x fs) := by
  obtain ⟨⟨t, pp, s⟩⟩ := h
  obtain ⟨f, fd, ps, F, hm, hk, hb⟩ := hf
  refine ⟨_, fun X hX => ?_, snd_call s⟩
  have q := pp X hX
  have hr := (hX.room hcm)
  obtain ⟨⟨TT0, rfl⟩, _⟩ := hX
  exact pe_call F hr hg hm hk hb .nil passL q hdb (hs _) (hpl _ _)
end
def lockE (lk : Option Nat) (ρ : En) : En := match lk with
  | none => ρ
  | some i => match ρ[i]? with
    | some (.o b c) => ρ.set i (.k b c)
    | _ => ρ
def unlockE (lk : Option Nat) (ρ0 ρ : En) : En := match lk with
  | none => ρ
  | some i => match ρ0[i]? with
    | some (.o b c) => ρ.set i (.o b c)
    | _ => ρ
section
variable {K : KK} {ρ ρ1 : En} {σ σ' : Sg} {H F H' F' : Hp} {lk : Option Nat}
theorem set_get {α : Type} {l : List α} {i : Nat} {x : α} (h : i < l.length) (j : Nat) : (l.set i x)[j]? = if j = i then some x else l[j]? := by
  by_cases e : j = i
  · subst e; rw [if_pos rfl, List.getElem?_set_self h]
  · rw [if_neg e, List.getElem?_set_ne (Ne.symm e)]
theorem lock_gd (G : Gd K ρ σ H F) : Gd K (lockE lk ρ) σ H F := by
  cases lk with
  | none => exact G
  | some i =>
    simp only [lockE]
    split
    · rename_i b c h
      have il := (List.getElem?_eq_some_iff.mp h).1
      refine ⟨by rw [List.length_set]; exact G.len, G.sub, fun j d e => ?_, fun j ns e => ?_, fun j b' c' e => ?_, fun j j' a ⟨⟨b1, c1, x⟩, sx⟩ ⟨⟨b2, c2, y⟩, sy⟩ => G.inj j j' a ?_ ?_, G.tab⟩
      · rw [set_get il] at e; split at e
        · cases e
        · exact G.val j d e
      · rw [set_get il] at e; split at e
        · cases e
        · exact G.scr j ns e
      · rw [set_get il] at e; split at e
        · rename_i z; subst z
          rcases e with e | e
          · cases e
          · cases e; exact G.opn j b c (.inl h)
        · exact G.opn j b' c' e
      · rw [set_get il] at x; split at x
        · rename_i z; subst z; exact ⟨⟨b, c, .inl h⟩, sx⟩
        · exact ⟨⟨b1, c1, x⟩, sx⟩
      · rw [set_get il] at y; split at y
        · rename_i z; subst z; exact ⟨⟨b, c, .inl h⟩, sy⟩
        · exact ⟨⟨b2, c2, y⟩, sy⟩
    · exact G
theorem unlock_ok (G : Gd K ρ1 σ' H' F') (E : Ext (lockE lk ρ) σ H F ρ1 σ' H' F') : Gd K (unlockE lk ρ ρ1) σ' H' F' ∧ Ext ρ σ H F (unlockE lk ρ ρ1) σ' H' F' ∧ ∀ j a, HeldAt (unlockE lk ρ ρ1) σ' j a → HeldAt ρ1 σ' j a := by
  cases lk with
  | none => exact ⟨G, E, fun _ _ h => h⟩
  | some i =>
    simp only [lockE] at E
    simp only [unlockE]
    split at E
    · rename_i b c h
      have il := (List.getElem?_eq_some_iff.mp h).1
      have hi : (ρ.set i (.k b c))[i]? = some (.k b c) := List.getElem?_set_self il
      obtain ⟨k1, k2⟩ := E.lck i b c hi
      have il1 := (List.getElem?_eq_some_iff.mp k1).1
      have held : ∀ j a, HeldAt (ρ1.set i (.o b c)) σ' j a → HeldAt ρ1 σ' j a := fun j a ⟨⟨b1, c1, x⟩, sx⟩ => by
        rw [set_get il1] at x
        split at x
        · rename_i z; subst z; exact ⟨⟨b, c, .inr k1⟩, sx⟩
        · exact ⟨⟨b1, c1, x⟩, sx⟩
      have opn0 : ∀ a, OpenAt (ρ.set i (.k b c)) σ a → OpenAt ρ σ a := fun a ⟨j, b1, c1, x, sx⟩ => by
        rw [set_get il] at x
        split at x
        · cases x
        · exact ⟨j, b1, c1, x, sx⟩
      refine ⟨⟨by rw [List.length_set]; exact G.len, G.sub, fun j d e => ?_, fun j ns e => ?_, fun j b' c' e => ?_, fun j j' a x y => G.inj j j' a (held _ _ x) (held _ _ y), G.tab⟩,
        ⟨E.fz, fun a o e nt n => E.keep a o e nt fun z => n (opn0 a z), E.dom, fun a ⟨j, b1, c1, x, sx⟩ => ?_, fun j c1 e => ?_, fun j b1 c1 e => ?_, fun j b1 c1 e => ?_, fun j c1 e => ?_⟩, held⟩
      · rw [set_get il1] at e; split at e
        · cases e
        · exact G.val j d e
      · rw [set_get il1] at e; split at e
        · cases e
        · exact G.scr j ns e
      · rw [set_get il1] at e; split at e
        · rename_i z; subst z
          rcases e with e | e
          · cases e; exact G.opn j b c (.inr k1)
          · cases e
        · exact G.opn j b' c' e
      · rw [set_get il1] at x
        split at x
        · rename_i z; subst z; rw [k2] at sx; exact .inl ⟨j, b, c, h, sx⟩
        · rcases E.opn a ⟨j, b1, c1, x, sx⟩ with q | q
          · exact .inl (opn0 a q)
          · exact .inr q
      · by_cases z : j = i
        · subst z; rw [h] at e; cases e
          exact ⟨⟨c, by rw [set_get il1, if_pos rfl]⟩, k2⟩
        · obtain ⟨⟨c2, q1⟩, q2⟩ := E.bor j c1 (by rw [set_get il, if_neg z]; exact e)
          exact ⟨⟨c2, by rw [set_get il1, if_neg z]; exact q1⟩, q2⟩
      · have z : j ≠ i := fun z => by subst z; rw [h] at e; cases e
        obtain ⟨q1, q2⟩ := E.lck j b1 c1 (by rw [set_get il, if_neg z]; exact e)
        exact ⟨by rw [set_get il1, if_neg z]; exact q1, q2⟩
      · rw [set_get il1] at e
        split at e
        · cases e
        · rename_i z
          have q := E.lw j b1 c1 e
          rw [set_get il, if_neg z] at q
          exact q
      · rw [set_get il1] at e
        split at e
        · rename_i z; subst z; cases e; exact ⟨c, h⟩
        · rename_i z
          obtain ⟨c2, q⟩ := E.bw j c1 e
          rw [set_get il, if_neg z] at q
          exact ⟨c2, q⟩
    · exact ⟨G, E, fun _ _ h => h⟩
end
abbrev IEx := En → Option (List D × Option Nat × En)
def Pst (PF : Hp → Prop) (a : Addr) (lk : Option Nat) (ds : List D) (ρ : En) (σ : Sg) (F : Hp) : Prop :=
  PF F ∧ ∀ i, lk = some i → (∃ b, ρ[i]? = some (.k b (.l ds))) ∧ σ[i]? = some (some (.ref a))
structure Src (K : KK) (J : It) (ds : List D) (lk : Option Nat) (ρ : En) (σ : Sg) (F : Hp) : Prop where
  ex : ∃ PF a, (∀ F F', Sub F F' → PF F → PF F') ∧ Pst PF a lk ds ρ σ F ∧ ∀ ρ σ H F, Gd K ρ σ H F → Pst PF a lk ds ρ σ F → ∀ i,
    (i < ds.length → J.go i H ∧ ∀ x H1, J.yld i H x H1 → ∃ F1 d, New F H F1 H1 ∧ ds[i]? = some d ∧ Dq K F1 x d) ∧ (ds.length ≤ i → J.stop i H)
  len : ds.length ≤ sizeLine
def SndI (K : KK) (w : TI) (f : IEx) : Prop :=
  ∀ (ρ : En) (σ : Sg) (H F : Hp) (R : It → Hp → Prop) (ds : List D) (lk : Option Nat) (ρ' : En), Gd K ρ σ H F → f ρ = some (ds, lk, ρ') →
    (∀ J H' F', Gd K ρ' σ H' F' → Ext ρ σ H F ρ' σ H' F' → Src K J ds lk (lockE lk ρ') σ F' → R J H') → w σ H R
structure SI (k : Nat) (c : Ctx) (tg iter : Expr) (f : IEx) : Prop where
  ex : ∃ w, (∀ X, Fits k c X → PI X tg iter w) ∧ SndI c.g.K w f
def ival (f : Ex) : IEx := fun ρ => (f ρ).bind fun p => match p.1 with
  | .v (.list ds) => some (ds, none, p.2)
  | .v (.tuple ds) => some (ds, none, p.2)
  | .fr (.l ds) => some (ds, none, p.2)
  | .sl i => match p.2[i]? with
    | some (.o _ (.l ds)) => some (ds, some i, p.2)
    | some (.k _ (.l ds)) => some (ds, some i, p.2)
    | _ => none
  | _ => none
section
variable {K : KK} {H0 : Hp} {ρ : En} {σ : Sg} {H F : Hp}
theorem src_lst {a : Addr} {vs : List V} {ds : List D} {ρ : En} {σ : Sg} {F : Hp} (h : F a = some (.lst vs)) (hd : Dqs K F vs ds) (hl : ds.length ≤ sizeLine) : Src K (Itl K a) ds none ρ σ F := by
  refine ⟨⟨fun F => F a = some (.lst vs) ∧ Dqs K F vs ds, 0, fun F F' s q => ⟨s _ _ q.1, q.2.sub s⟩, ⟨⟨h, hd⟩, fun i z => by cases z⟩, fun ρ σ H F G p i => ?_⟩, hl⟩
  obtain ⟨⟨h1, h2⟩, _⟩ := p
  have hH : SqL K H a vs := .inl (.inl (G.sub _ _ h1))
  have e := h2.length
  refine ⟨fun hi => ⟨⟨vs, vs[i]'(by omega), hH, List.getElem?_eq_getElem _⟩, fun x H1 y => ?_⟩, fun hi => ⟨vs, hH, by omega⟩⟩
  obtain ⟨rfl, y⟩ := y
  obtain ⟨v, q1, q2⟩ := h2.get (List.getElem?_eq_getElem hi)
  rw [y vs hH] at q1; cases q1
  exact ⟨F, ds[i], New.refl G.sub, List.getElem?_eq_getElem hi, q2⟩
theorem src_tup {a : Addr} {vs : List V} {ds : List D} {ρ : En} {σ : Sg} {F : Hp} (h : SqT K F a vs) (hd : Dqs K F vs ds) (hl : ds.length ≤ sizeLine) : Src K (Itt K a) ds none ρ σ F := by
  refine ⟨⟨fun F => SqT K F a vs ∧ Dqs K F vs ds, 0, fun F F' s q => ⟨sqT_sub s q.1, q.2.sub s⟩, ⟨⟨h, hd⟩, fun i z => by cases z⟩, fun ρ σ H F G p i => ?_⟩, hl⟩
  obtain ⟨⟨h1, h2⟩, _⟩ := p
  have hH : SqT K H a vs := sqT_sub G.sub h1
  have e := h2.length
  refine ⟨fun hi => ⟨⟨vs, vs[i]'(by omega), hH, List.getElem?_eq_getElem _⟩, fun x H1 y => ?_⟩, fun hi => ⟨vs, hH, by omega⟩⟩
  obtain ⟨rfl, y⟩ := y
  obtain ⟨v, q1, q2⟩ := h2.get (List.getElem?_eq_getElem hi)
  rw [y vs hH] at q1; cases q1
  exact ⟨F, ds[i], New.refl G.sub, List.getElem?_eq_getElem hi, q2⟩
theorem src_slot {a : Addr} {b : Bool} {ds : List D} {j : Nat} {ρ : En} {σ : Sg} {F : Hp} (h : ρ[j]? = some (.k b (.l ds))) (hs : σ[j]? = some (some (.ref a))) (hl : ds.length ≤ sizeLine) : Src K (Itl K a) ds (some j) ρ σ F := by
  refine ⟨⟨fun _ => True, a, fun _ _ _ _ => trivial, ⟨trivial, fun i z => by cases z; exact ⟨⟨b, h⟩, hs⟩⟩, fun ρ σ H F G p i => ?_⟩, hl⟩
  obtain ⟨⟨b', q1⟩, q2⟩ := p.2 j rfl
  obtain ⟨a', q3, _, vs, h1, h2, _⟩ := G.opn j b' _ (.inr q1)
  rw [q2] at q3; cases q3
  have hH : SqL K H a vs := .inl (.inl h1)
  have e := h2.length
  refine ⟨fun hi => ⟨⟨vs, vs[i]'(by omega), hH, List.getElem?_eq_getElem _⟩, fun x H1 y => ?_⟩, fun hi => ⟨vs, hH, by omega⟩⟩
  obtain ⟨rfl, y⟩ := y
  obtain ⟨v, q1, q2⟩ := h2.get (List.getElem?_eq_getElem hi)
  rw [y vs hH] at q1; cases q1
  exact ⟨F, ds[i], New.refl G.sub, List.getElem?_eq_getElem hi, q2⟩
end
theorem pi_seq {X : Cx} {tg l : Expr} {tl : TE} (hl : PE X l tl) : PI X tg l (fun σ H R => tl σ H fun x H1 => ∃ a, x = .ref a ∧ (((∃ xs, SqL X.K H1 a xs) ∧ R (Itl X.K a) H1) ∨ ((∃ xs, SqT X.K H1 a xs) ∧ R (Itt X.K a) H1))) := by
  refine ⟨fun pins s σ H R I h => ?_⟩
  refine thn (hl.run pins s σ H _ I h) fun v s1 ⟨x, H1, I1, r1, q1⟩ => ?_
  obtain ⟨a, e, q⟩ := q1
  subst e
  cases r1
  rcases q with ⟨⟨xs, hq⟩, q⟩ | ⟨⟨xs, hq⟩, q⟩
  · obtain ⟨its, rv, p, hz⟩ := I1.list hq
    refine wpAny_pyIter_list p.isList ?_
    refine ⟨s1.heap.objs.size, [s1.heap.objs.size], _, _, H1, rfl, I1.kept (t' := s1.toks) fun b o e => Heap.get?_push_of_some _ e, turn_list a _, ⟨_, Heap.get?_push_size _ rfl, rfl, rfl⟩, fun b hb => ?_, q⟩
    have e : b = s1.heap.objs.size := by simpa using hb
    subst e
    exact I1.fpOk (Nat.le_refl _) (I1.hok.fresh (Nat.le_refl _))
  · obtain ⟨its, rv, p, hz⟩ := I1.tuple hq
    refine wpAny_pyIter_tuple (show s1.heap.IsTuple a its.toArray from p) ?_
    refine ⟨s1.heap.objs.size, [s1.heap.objs.size], _, _, H1, rfl, I1.kept (t' := s1.toks) fun b o e => Heap.get?_push_of_some _ e, turn_tuple a _, ⟨_, Heap.get?_push_size _ rfl, rfl, rfl⟩, fun b hb => ?_, q⟩
    have e : b = s1.heap.objs.size := by simpa using hb
    subst e
    exact I1.fpOk (Nat.le_refl _) (I1.hok.fresh (Nat.le_refl _))
section
variable {k : Nat} {c : Ctx} {tg a b : Expr} {f f1 f2 : Ex} {pos p : Pos}
theorem fr_gd {K : KK} {H0 : Hp} {ρ : En} {σ : Sg} {H F H' F' : Hp} {v : V} {ds : List D} (G' : Gd K ρ σ H' F') (r : XR K H0 ρ σ H' F' v (.fr (.l ds))) : ∃ a vs, v = .ref a ∧ Gd K ρ σ H' (upd F' a (.lst vs)) ∧ Dqs K (upd F' a (.lst vs)) vs ds ∧ ds.length ≤ sizeLine ∧ H0 a = none ∧ F' a = none := by
  obtain ⟨a, rfl, h0, hF, ⟨vs, h1, h2, h3⟩, hn⟩ := r
  have sF : Sub F' (upd F' a (.lst vs)) := Sub.new hF
  refine ⟨a, vs, rfl, ⟨G'.len, G'.sub.to h1, fun i d e => ?_, fun i ns e => ?_, fun i b c e => ?_, G'.inj, G'.tab.1, G'.tab.2.put (nt_lst _)⟩, h2.sub sF, h3, h0, hF⟩
  · obtain ⟨w, q1, q2⟩ := G'.val i d e
    exact ⟨w, q1, q2.sub sF⟩
  · obtain ⟨w, q1, q2, q3⟩ := G'.scr i ns e
    exact ⟨w, q1, sqL_sub sF q2, q3⟩
  · obtain ⟨b', q1, q2, q3⟩ := G'.opn i b c e
    have hb : b' ≠ a := fun z => hn i ⟨⟨b, c, e⟩, by rw [q1, z]⟩
    exact ⟨b', q1, by rw [upd_ne hb]; exact q2, q3.mono sF fun _ z => z⟩
theorem si_val (h : SE k c a f) : SI k c tg a (ival f) := by
  obtain ⟨⟨t, pp, s⟩⟩ := h
  refine ⟨fun σ H R => t σ H fun x H1 => ∃ a, x = .ref a ∧ (((∃ xs, SqL c.g.K H1 a xs) ∧ R (Itl c.g.K a) H1) ∨ ((∃ xs, SqT c.g.K H1 a xs) ∧ R (Itt c.g.K a) H1)), fun X hX => ?_, ?_⟩
  · have q := pp X hX
    obtain ⟨⟨TT0, rfl⟩, _⟩ := hX
    exact pi_seq q
  · intro ρ σ H F R ds lk ρ' G e q
    unfold ival at e
    rw [Option.bind_eq_some_iff] at e
    obtain ⟨⟨x, ρ1⟩, e1, e⟩ := e
    have s' := s ρ σ H F
    simp only at e
    split at e
    · rename_i ds' h; cases e
      refine s' _ _ _ G e1 fun v H' F' G' E' r => ?_
      obtain ⟨a, vs, rfl, h1, h2, h3⟩ := Dq.unlst r
      exact ⟨a, rfl, .inl ⟨⟨vs, .inl (.inl (G'.sub _ _ h1))⟩, q _ H' F' G' E' (src_lst h1 h2 h3)⟩⟩
    · rename_i ds' h; cases e
      refine s' _ _ _ G e1 fun v H' F' G' E' r => ?_
      obtain ⟨a, vs, rfl, h1, h2, h3⟩ := Dq.untup r
      exact ⟨a, rfl, .inr ⟨⟨vs, sqT_sub G'.sub h1.sq⟩, q _ H' F' G' E' (src_tup h1.sq h2 h3)⟩⟩
    · rename_i ds' h; cases e
      refine s' _ _ _ G e1 fun v H' F' G' E' r => ?_
      obtain ⟨a, vs, rfl, h1, h2, h3, h4, h5⟩ := fr_gd (H := H) (F := F) G' r
      refine ⟨a, rfl, .inl ⟨⟨vs, .inl (.inl (h1.sub _ _ upd_same))⟩, q _ H' _ h1 ⟨E'.fz.trans (Sub.new h5), fun b o e nt n => ?_, E'.dom, E'.opn, E'.bor, E'.lck, E'.lw, E'.bw⟩ (src_lst upd_same h2 h3)⟩⟩
      obtain ⟨k1, k2⟩ := E'.keep b o e nt n
      refine ⟨k1, fun z => ?_⟩
      have hb : b ≠ a := fun y => by rw [y, h4] at e; cases e
      rw [upd_ne hb]; exact k2 z
    · rename_i i
      split at e
      · rename_i b ds' h; cases e
        refine s' _ _ _ G e1 fun v H' F' G' E' r => ?_
        obtain ⟨a, q1, q2, vs, h1, h2, h3⟩ := G'.opn i _ _ (.inl h)
        have r : σ[i]? = some (some v) := r
        rw [r] at q1; cases q1
        have il := (List.getElem?_eq_some_iff.mp h).1
        refine ⟨a, rfl, .inl ⟨⟨vs, .inl (.inl h1)⟩, q _ H' F' G' E' (src_slot (b := b) ?_ r h3)⟩⟩
        simp only [lockE, h]
        exact List.getElem?_set_self il
      · rename_i b ds' h; cases e
        refine s' _ _ _ G e1 fun v H' F' G' E' r => ?_
        obtain ⟨a, q1, q2, vs, h1, h2, h3⟩ := G'.opn i _ _ (.inr h)
        have r : σ[i]? = some (some v) := r
        rw [r] at q1; cases q1
        refine ⟨a, rfl, .inl ⟨⟨vs, .inl (.inl h1)⟩, q _ H' F' G' E' (src_slot (b := b) ?_ r h3)⟩⟩
        simp only [lockE, h]
      · cases e
    · cases e
def rngL (lo : Int) (n : Nat) : List D := (List.range n).map fun (i : Nat) => PyData.int (lo + (i : Int))
def irng1 (f : Ex) : IEx := fun ρ => (f ρ).bind fun p => match p.1 with
  | .v (.int j) => if j.natAbs ≤ 1000000 then some (rngL 0 j.toNat, none, p.2) else none
  | _ => none
def irng2 (f1 f2 : Ex) : IEx := fun ρ => (f1 ρ).bind fun p => match p.1 with
  | .v (.int i) => (f2 p.2).bind fun q => match q.1 with
    | .v (.int j) => if i.natAbs ≤ 1000000 ∧ j.natAbs ≤ 1000000 then some (rngL i (j - i).toNat, none, q.2) else none
    | _ => none
  | _ => none
theorem rngL_len (lo : Int) (n : Nat) : (rngL lo n).length = n := by simp [rngL]
theorem rngL_get {lo : Int} {n i : Nat} (h : i < n) : (rngL lo n)[i]? = some (.int (lo + i)) := by simp [rngL, h]
theorem src_rng {K : KK} {ρ : En} {σ : Sg} {F : Hp} {lo : Int} {n : Nat} (h : n ≤ 2000000) : Src K (Itr lo n) (rngL lo n) none ρ σ F := by
  refine ⟨⟨fun _ => True, 0, fun _ _ _ _ => trivial, ⟨trivial, fun i z => by cases z⟩, fun ρ σ H F G p i => ?_⟩, by rw [rngL_len, sizeLine_eq]; omega⟩
  rw [rngL_len]
  refine ⟨fun hi => ⟨hi, fun x H1 y => ?_⟩, fun hi => hi⟩
  obtain ⟨rfl, rfl⟩ := y
  exact ⟨F, _, New.refl G.sub, rngL_get hi, Dq.int _⟩
theorem si_rng1 (hg : c.sc.names.lookup (Str.ofString "range") = some .globalImplicit) (hm : c.g.mg "range" = none) (h : SE k c a f) (hs : ∀ env, starEach [a] env = [(false, eval a env)] := by intro _; rfl) : SI k c tg (.Call (.Name "range" p) [a] [] pos) (irng1 f) := by
  obtain ⟨⟨t, pp, s⟩⟩ := h
  refine ⟨iRng1 (tCons t tNil), fun X hX => ?_, ?_⟩
  · have q := pp X hX
    obtain ⟨⟨TT0, rfl⟩, _⟩ := hX
    exact pi_range1 hg hm (pa_cons q pa_nil (hs := star1 a _ (hs _))) (hs _)
  · intro ρ σ H F R ds lk ρ' G e q
    unfold irng1 at e
    rw [Option.bind_eq_some_iff] at e
    obtain ⟨⟨x, ρ1⟩, e1, e⟩ := e
    simp only at e
    split at e
    · rename_i j
      split at e
      · rename_i hj
        cases e
        exact s ρ σ H F _ _ _ G e1 fun v H' F' G' E' r => ⟨j, by rw [Dq.unint r], by omega, by omega, q _ H' F' G' E' (src_rng (by omega))⟩
      · cases e
    · cases e
end
abbrev Tgt := D → En → Option En
def setV (i : Nat) : Tgt := fun d ρ => match ρ[i]? with
  | some .un => some (ρ.set i (.v d))
  | some (.v _) => some (ρ.set i (.v d))
  | some (.o false _) => some (ρ.set i (.v d))
  | some (.r _) => some (ρ.set i (.v d))
  | _ => none
def SndG (K : KK) (t : TG) (f : Tgt) (T : List Nat) : Prop :=
  ∀ (ρ : En) (σ : Sg) (H F : Hp) (Q : Sg → Hp → Prop) (v : V) (d : D) (ρ' : En), Gd K ρ σ H F → Dq K F v d → f d ρ = some ρ' →
    (∀ σ', Gd K ρ' σ' H F → Ext ρ σ H F ρ' σ' H F → (∀ own : List Nat, (∀ i ∈ T, i ∈ own) → L2.wipe σ' own = L2.wipe σ own) → Q σ' H) → t v σ H Q
structure SG (k : Nat) (c : Ctx) (e : Expr) (f : Tgt) (T : List Nat) : Prop where
  ex : ∃ t, (∀ X, Fits k c X → PG X e t) ∧ SndG c.g.K t f T
theorem wipe_get (σ : Sg) : ∀ (own : List Nat) (j : Nat), (L2.wipe σ own)[j]? = if j ∈ own ∧ j < σ.length then some none else σ[j]?
  | [], j => by simp [L2.wipe]
  | v :: own, j => by
    unfold L2.wipe
    by_cases h : j = v
    · subst h
      by_cases hl : j < σ.length
      · rw [List.getElem?_set_self (by rw [L2.wipe_length]; exact hl), if_pos ⟨List.mem_cons_self, hl⟩]
      · rw [if_neg (fun z => hl z.2), List.getElem?_eq_none (by rw [List.length_set, L2.wipe_length]; omega), List.getElem?_eq_none (by omega)]
    · rw [List.getElem?_set_ne (Ne.symm h), wipe_get σ own j]
      simp [h]
theorem wipe_set {σ : Sg} {own : List Nat} {i : Nat} {x : Option V} (h : i ∈ own) : L2.wipe (σ.set i x) own = L2.wipe σ own := by
  apply List.ext_getElem?
  intro j
  rw [wipe_get, wipe_get, List.length_set]
  by_cases e : j = i
  · subst e
    by_cases hl : j < σ.length
    · rw [if_pos ⟨h, hl⟩, if_pos ⟨h, hl⟩]
    · rw [if_neg (fun z => hl z.2), if_neg (fun z => hl z.2), List.getElem?_eq_none (by rw [List.length_set]; omega), List.getElem?_eq_none (by omega)]
  · rw [List.getElem?_set_ne (Ne.symm e)]
theorem wipe_idem (σ : Sg) (own : List Nat) : L2.wipe (L2.wipe σ own) own = L2.wipe σ own := by
  apply List.ext_getElem?
  intro j
  rw [wipe_get, wipe_get, L2.wipe_length]
  split
  · rfl
  · rfl
theorem setV_ok {K : KK} {ρ ρ' : En} {σ : Sg} {H F : Hp} {i : Nat} {v : V} {d : D} (G : Gd K ρ σ H F) (h : Dq K F v d) (hset : setV i d ρ = some ρ') : Gd K ρ' (σ.set i (some v)) H F ∧ Ext ρ σ H F ρ' (σ.set i (some v)) H F := by
  have main : ∀ s, ρ[i]? = some s → (∀ c, s ≠ .o true c) → (∀ b c, s ≠ .k b c) → ρ' = ρ.set i (.v d) → Gd K ρ' (σ.set i (some v)) H F ∧ Ext ρ σ H F ρ' (σ.set i (some v)) H F := fun s hs n1 n2 e => by
    subst e
    clear hset
    have il := (List.getElem?_eq_some_iff.mp hs).1
    have iσ : i < σ.length := by rw [G.len]; exact il
    have held : ∀ j a, HeldAt (ρ.set i (.v d)) (σ.set i (some v)) j a → j ≠ i ∧ HeldAt ρ σ j a := fun j a ⟨⟨b, c, x⟩, sx⟩ => by
      rw [set_get il] at x
      split at x
      · rcases x with x | x <;> cases x
      · rename_i z; rw [set_get iσ, if_neg z] at sx; exact ⟨z, ⟨⟨b, c, x⟩, sx⟩⟩
    refine ⟨⟨by rw [List.length_set, List.length_set]; exact G.len, G.sub, fun j d' e => ?_, fun j ns e => ?_, fun j b c e => ?_, fun j j' a x y => G.inj j j' a (held _ _ x).2 (held _ _ y).2, G.tab⟩,
      ⟨Sub.refl F, fun a o e _ _ => ⟨e, fun z => z⟩, fun _ z => z, fun a ⟨j, b, c, x, sx⟩ => ?_, fun j c e => ?_, fun j b c e => ?_, fun j b c e => ?_, fun j c e => ?_⟩⟩
    · rw [set_get il] at e
      split at e
      · rename_i z; subst z; cases e; exact ⟨v, by rw [set_get iσ, if_pos rfl], h⟩
      · rename_i z; obtain ⟨w, q1, q2⟩ := G.val j d' e; exact ⟨w, by rw [set_get iσ, if_neg z]; exact q1, q2⟩
    · rw [set_get il] at e
      split at e
      · cases e
      · rename_i z; obtain ⟨w, q1, q2⟩ := G.scr j ns e; exact ⟨w, by rw [set_get iσ, if_neg z]; exact q1, q2⟩
    · rw [set_get il] at e
      split at e
      · rcases e with e | e <;> cases e
      · rename_i z; obtain ⟨w, q1, q2⟩ := G.opn j b c e; exact ⟨w, by rw [set_get iσ, if_neg z]; exact q1, q2⟩
    · rw [set_get il] at x
      split at x
      · cases x
      · rename_i z; rw [set_get iσ, if_neg z] at sx; exact .inl ⟨j, b, c, x, sx⟩
    · have z : j ≠ i := fun z => by subst z; rw [hs] at e; cases e; exact n1 c rfl
      exact ⟨⟨c, by rw [set_get il, if_neg z]; exact e⟩, by rw [set_get iσ, if_neg z]⟩
    · have z : j ≠ i := fun z => by subst z; rw [hs] at e; cases e; exact n2 b c rfl
      exact ⟨by rw [set_get il, if_neg z]; exact e, by rw [set_get iσ, if_neg z]⟩
    · rw [set_get il] at e
      split at e
      · cases e
      · exact e
    · rw [set_get il] at e
      split at e
      · cases e
      · exact ⟨c, e⟩
  unfold setV at hset
  split at hset
  · cases hset; rename_i h; exact main _ h (fun _ z => by cases z) (fun _ _ z => by cases z) rfl
  · cases hset; rename_i h; exact main _ h (fun _ z => by cases z) (fun _ _ z => by cases z) rfl
  · cases hset; rename_i h; exact main _ h (fun _ z => by cases z) (fun _ _ z => by cases z) rfl
  · cases hset; rename_i h; exact main _ h (fun _ z => by cases z) (fun _ _ z => by cases z) rfl
  · cases hset
section
variable {k : Nat} {c : Ctx} {e : Expr} {es : List Expr} {pos : Pos}
theorem sg_name (i : Nat) {x : Str} (hi : c.N[i]? = some x) (hx : Loc c.sc x) (hf : c.fn x = true ∨ c.sc.names.lookup x = some .local) : SG k c (.Name x pos) (setV i) [i] := by
  refine ⟨gName i, fun X hX => ?_, ?_⟩
  · have nd := hX.nd
    obtain ⟨⟨TT0, rfl⟩, _⟩ := hX
    exact pg_name nd hi hx hf
  · intro ρ σ H F Q v d ρ' G h e q
    obtain ⟨h1, h2⟩ := setV_ok G h e
    exact q _ h1 h2 fun own hw => wipe_set (hw i List.mem_cons_self)
abbrev Tgts := List D → En → Option En
def SndGs (K : KK) (t : TGs) (f : Tgts) (T : List Nat) : Prop :=
  ∀ (ρ : En) (σ : Sg) (H F : Hp) (Q : Sg → Hp → Prop) (vs : List V) (ds : List D) (ρ' : En), Gd K ρ σ H F → Dqs K F vs ds → f ds ρ = some ρ' →
    (∀ σ', Gd K ρ' σ' H F → Ext ρ σ H F ρ' σ' H F → (∀ own : List Nat, (∀ i ∈ T, i ∈ own) → L2.wipe σ' own = L2.wipe σ own) → Q σ' H) → t vs σ H Q
structure SGs (k : Nat) (c : Ctx) (es : List Expr) (f : Tgts) (T : List Nat) : Prop where
  ex : ∃ t, (∀ X, Fits k c X → PGs X es t) ∧ SndGs c.g.K t f T
def gsNil : Tgts := fun ds ρ => match ds with
  | [] => some ρ
  | _ => none
def gsCons (f : Tgt) (fs : Tgts) : Tgts := fun ds ρ => match ds with
  | d :: ds => (f d ρ).bind fun ρ1 => fs ds ρ1
  | [] => none
theorem sgs_nil : SGs k c [] gsNil [] := by
  refine ⟨gNil, fun X _ => pgs_nil, ?_⟩
  intro ρ σ H F Q vs ds ρ' G h e q
  cases ds with
  | nil => cases e; exact ⟨h.unnil, q σ G (Ext.refl ..) fun _ _ => rfl⟩
  | cons _ _ => cases e
theorem sgs_cons {f : Tgt} {fs : Tgts} {T T' : List Nat} (h1 : SG k c e f T) (h2 : SGs k c es fs T') (hs : ∀ env, (assignEach (e :: es) env).map (·.2) = assign e env :: (assignEach es env).map (·.2) := by intro _; rfl) : SGs k c (e :: es) (gsCons f fs) (T ++ T') := by
  obtain ⟨⟨t1, p1, s1⟩⟩ := h1
  obtain ⟨⟨t2, p2, s2⟩⟩ := h2
  refine ⟨gCons t1 t2, fun X hX => pgs_cons (p1 X hX) (p2 X hX) (hs _), ?_⟩
  intro ρ σ H F Q vs ds ρ' G h e q
  cases ds with
  | nil => cases e
  | cons d ds =>
    simp only [gsCons] at e
    rw [Option.bind_eq_some_iff] at e
    obtain ⟨ρ1, e1, e2⟩ := e
    obtain ⟨v, vs', rfl, h1, h2⟩ := h.uncons
    refine ⟨v, vs', rfl, s1 ρ σ H F _ v d ρ1 G h1 e1 fun σ1 G1 E1 w1 => ?_⟩
    refine s2 ρ1 σ1 H F _ vs' ds ρ' G1 h2 e2 fun σ2 G2 E2 w2 => ?_
    exact q σ2 G2 (E1.trans E2) fun own ho => (w2 own fun i hi => ho i (List.mem_append_right _ hi)).trans (w1 own fun i hi => ho i (List.mem_append_left _ hi))
def setT (n : Nat) (fs : Tgts) : Tgt := fun d ρ => match d with
  | .tuple ds => if ds.length = n then fs ds ρ else none
  | _ => none
theorem sg_tup {fs : Tgts} {T : List Nat} {n m : Nat} (h : SGs k c es fs T) (hn : ∀ env, (assignEach es env).length = n := by intro _; rfl) (hst : ∀ env, (assignEach es env).findIdx? (·.1) = none := by intro _; rfl) (hcm : c.calm = true := by rfl) : SG k c (.Tuple es m pos) (setT n fs) T := by
  obtain ⟨⟨t, p, s⟩⟩ := h
  refine ⟨gTup c.g.K n t, fun X hX => ?_, ?_⟩
  · have q := p X hX
    have hc := (hX.calm hcm)
    obtain ⟨⟨TT0, rfl⟩, _⟩ := hX
    exact pg_tup hc q (hn _) (hst _)
  · intro ρ σ H F Q v d ρ' G h e q
    unfold setT at e
    split at e
    · rename_i ds
      split at e
      · rename_i hl
        obtain ⟨a, vs, rfl, h1, h2, _⟩ := h.untup
        exact ⟨a, vs, rfl, sqT_sub G.sub h1.sq, by rw [h2.length]; exact hl, s ρ σ H F _ vs ds ρ' G h2 e q⟩
      · cases e
    · cases e
end
def wipeE (ρ : En) : List Nat → En
  | [] => ρ
  | v :: vs => (wipeE ρ vs).set v .un
theorem wipeE_len (ρ : En) : ∀ own : List Nat, (wipeE ρ own).length = ρ.length
  | [] => rfl
  | v :: own => by unfold wipeE; rw [List.length_set, wipeE_len ρ own]
theorem wipeE_get (ρ : En) : ∀ (own : List Nat) (j : Nat), (wipeE ρ own)[j]? = if j ∈ own ∧ j < ρ.length then some .un else ρ[j]?
  | [], j => by simp [wipeE]
  | v :: own, j => by
    unfold wipeE
    by_cases h : j = v
    · subst h
      by_cases hl : j < ρ.length
      · rw [List.getElem?_set_self (by rw [wipeE_len]; exact hl), if_pos ⟨List.mem_cons_self, hl⟩]
      · rw [if_neg (fun z => hl z.2), List.getElem?_eq_none (by rw [List.length_set, wipeE_len]; omega), List.getElem?_eq_none (by omega)]
    · rw [List.getElem?_set_ne (Ne.symm h), wipeE_get ρ own j]
      simp [h]
theorem wipeE_out {ρ : En} {own : List Nat} {j : Nat} (h : j ∉ own) : (wipeE ρ own)[j]? = ρ[j]? := by rw [wipeE_get, if_neg (fun z => h z.1)]
theorem wipeE_in {ρ : En} {own : List Nat} {j : Nat} (h : j ∈ own) (s : Sl) (hs : (wipeE ρ own)[j]? = some s) : s = .un := by
  rw [wipeE_get] at hs
  split at hs
  · cases hs; rfl
  · rename_i z
    exact absurd ⟨h, (List.getElem?_eq_some_iff.mp hs).1⟩ z
theorem wipe_out' {σ : Sg} {own : List Nat} {j : Nat} (h : j ∉ own) : (L2.wipe σ own)[j]? = σ[j]? := by rw [wipe_get, if_neg (fun z => h z.1)]
def restE (ρ0 : En) : List Nat → En → En
  | [], ρ => ρ
  | v :: vs, ρ => match ρ0[v]? with
    | some s => (restE ρ0 vs ρ).set v s
    | none => restE ρ0 vs ρ
theorem restE_len (ρ0 : En) : ∀ (own : List Nat) (ρ : En), (restE ρ0 own ρ).length = ρ.length
  | [], ρ => rfl
  | v :: own, ρ => by
    unfold restE
    split
    · rw [List.length_set, restE_len ρ0 own ρ]
    · exact restE_len ρ0 own ρ
theorem restE_get (ρ0 : En) : ∀ (own : List Nat) (ρ : En) (j : Nat), ρ.length = ρ0.length → (restE ρ0 own ρ)[j]? = if j ∈ own then ρ0[j]? else ρ[j]?
  | [], ρ, j, _ => by simp [restE]
  | v :: own, ρ, j, hl => by
    unfold restE
    split
    · rename_i s hs
      have vl := (List.getElem?_eq_some_iff.mp hs).1
      rw [set_get (by rw [restE_len, hl]; exact vl)]
      by_cases h : j = v
      · subst h; rw [if_pos rfl, if_pos List.mem_cons_self, hs]
      · rw [if_neg h, restE_get ρ0 own ρ j hl]; simp [h]
    · rename_i hs
      rw [restE_get ρ0 own ρ j hl]
      by_cases h : j = v
      · subst h
        rw [if_pos (List.mem_cons_self (a := j))]
        split
        · rfl
        · rw [hs]; exact List.getElem?_eq_none (by rw [hl]; exact List.getElem?_eq_none_iff.mp hs)
      · simp [h]
section
variable {K : KK} {ρ ρ' ρ1 ρ2 : En} {σ σ' : Sg} {H F H' F' : Hp} {own : List Nat}
theorem wipe_gd (G : Gd K ρ σ H F) (own : List Nat) : Gd K (wipeE ρ own) (L2.wipe σ own) H F := by
  have get : ∀ (j : Nat) (s : Sl), (wipeE ρ own)[j]? = some s → s ≠ .un → j ∉ own ∧ ρ[j]? = some s := fun j s h n => by
    by_cases hj : j ∈ own
    · exact absurd (wipeE_in hj s h) n
    · rw [wipeE_out hj] at h; exact ⟨hj, h⟩
  have held : ∀ j a, HeldAt (wipeE ρ own) (L2.wipe σ own) j a → HeldAt ρ σ j a := fun j a ⟨⟨b, c, x⟩, sx⟩ => by
    rcases x with x | x
    · obtain ⟨h1, h2⟩ := get j _ x (fun z => by cases z)
      rw [wipe_out' h1] at sx; exact ⟨⟨b, c, .inl h2⟩, sx⟩
    · obtain ⟨h1, h2⟩ := get j _ x (fun z => by cases z)
      rw [wipe_out' h1] at sx; exact ⟨⟨b, c, .inr h2⟩, sx⟩
  refine ⟨by rw [L2.wipe_length, wipeE_len]; exact G.len, G.sub, fun j d e => ?_, fun j ns e => ?_, fun j b c e => ?_, fun j j' a x y => G.inj j j' a (held _ _ x) (held _ _ y), G.tab⟩
  · obtain ⟨h1, h2⟩ := get j _ e (fun z => by cases z)
    rw [wipe_out' h1]; exact G.val j d h2
  · obtain ⟨h1, h2⟩ := get j _ e (fun z => by cases z)
    rw [wipe_out' h1]; exact G.scr j ns h2
  · rcases e with e | e
    · obtain ⟨h1, h2⟩ := get j _ e (fun z => by cases z)
      rw [wipe_out' h1]; exact G.opn j b c (.inl h2)
    · obtain ⟨h1, h2⟩ := get j _ e (fun z => by cases z)
      rw [wipe_out' h1]; exact G.opn j b c (.inr h2)
theorem wipe_ext {σw : Sg} (E : Ext (wipeE ρ own) σw H F ρ2 σ' H' F') (hw : L2.wipe σ' own = σw) : Ext (wipeE ρ own) σw H F (wipeE ρ2 own) σw H' F' := by
  refine ⟨E.fz, E.keep, E.dom, fun a ⟨j, b, c, x, sx⟩ => ?_, fun j c e => ?_, fun j b c e => ?_, fun j b c e => ?_, fun j c e => ?_⟩
  · by_cases hj : j ∈ own
    · have := wipeE_in hj _ x; cases this
    · rw [wipeE_out hj] at x
      rw [← hw, wipe_out' hj] at sx
      exact E.opn a ⟨j, b, c, x, sx⟩
  · have hj : j ∉ own := fun z => by have := wipeE_in z _ e; cases this
    obtain ⟨⟨c', q1⟩, q2⟩ := E.bor j c e
    exact ⟨⟨c', by rw [wipeE_out hj]; exact q1⟩, rfl⟩
  · have hj : j ∉ own := fun z => by have := wipeE_in z _ e; cases this
    obtain ⟨q1, q2⟩ := E.lck j b c e
    exact ⟨by rw [wipeE_out hj]; exact q1, rfl⟩
  · have hj : j ∉ own := fun z => by have := wipeE_in z _ e; cases this
    rw [wipeE_out hj] at e
    exact E.lw j b c e
  · have hj : j ∉ own := fun z => by have := wipeE_in z _ e; cases this
    rw [wipeE_out hj] at e
    exact E.bw j c e
theorem rest_ok (G : Gd K ρ σ H F) (G2 : Gd K ρ2 (L2.wipe σ own) H' F') (E : Ext (wipeE ρ own) (L2.wipe σ own) H F ρ2 (L2.wipe σ own) H' F') : Gd K (restE ρ own ρ2) σ H' F' ∧ Ext ρ σ H F (restE ρ own ρ2) σ H' F' ∧ ∀ j a, HeldAt (restE ρ own ρ2) σ j a → HeldAt ρ σ j a ∨ HeldAt ρ2 (L2.wipe σ own) j a := by
  have hl : ρ2.length = ρ.length := by rw [← G2.len, L2.wipe_length, G.len]
  have get := fun j => restE_get ρ own ρ2 j hl
  have opn0 : ∀ a, OpenAt (wipeE ρ own) (L2.wipe σ own) a → OpenAt ρ σ a ∧ ∀ j ∈ own, ¬ HeldAt ρ σ j a := fun a ⟨j, b, c, x, sx⟩ => by
    have hj : j ∉ own := fun z => by have := wipeE_in z _ x; cases this
    rw [wipeE_out hj] at x
    rw [wipe_out' hj] at sx
    refine ⟨⟨j, b, c, x, sx⟩, fun j' hj' hh => hj ?_⟩
    rw [G.inj j j' a ⟨⟨b, c, .inl x⟩, sx⟩ hh]; exact hj'
  have held : ∀ j a, HeldAt (restE ρ own ρ2) σ j a → (j ∈ own ∧ HeldAt ρ σ j a) ∨ (j ∉ own ∧ HeldAt ρ2 (L2.wipe σ own) j a) := fun j a ⟨⟨b, c, x⟩, sx⟩ => by
    rw [get] at x
    by_cases hj : j ∈ own
    · rw [if_pos hj] at x; exact .inl ⟨hj, ⟨b, c, x⟩, sx⟩
    · rw [if_neg hj] at x; exact .inr ⟨hj, ⟨b, c, x⟩, by rw [wipe_out' hj]; exact sx⟩
  -- an own name's container stands as it stood
  have ownk : ∀ j ∈ own, ∀ b c, (ρ[j]? = some (.o b c) ∨ ρ[j]? = some (.k b c)) → ∃ a, σ[j]? = some (some (.ref a)) ∧ F' a = none ∧ CtR K F' H' a c ∧ ¬ OpenAt (wipeE ρ own) (L2.wipe σ own) a := fun j hj b c e => by
    obtain ⟨a, h1, h2, h3⟩ := G.opn j b c e
    have n : ¬ OpenAt (wipeE ρ own) (L2.wipe σ own) a := fun z => (opn0 a z).2 j hj ⟨⟨b, c, e⟩, h1⟩
    obtain ⟨o, ho⟩ := h3.some
    obtain ⟨k1, k2⟩ := E.keep a o ho (h3.nt ho) n
    exact ⟨a, h1, k2 h2, h3.mono E.fz (fun u z => by rw [ho] at z; cases z; exact k1), n⟩
  -- it is not held by another name
  have cross : ∀ j j' a, j ∈ own → HeldAt ρ σ j a → j' ∉ own → HeldAt ρ2 (L2.wipe σ own) j' a → False := fun j j' a hj h hj' h' => by
    obtain ⟨⟨b, c, x⟩, sx⟩ := h
    obtain ⟨a', h1, _, _, n⟩ := ownk j hj b c x
    rw [sx] at h1; cases h1
    obtain ⟨⟨b', c', x'⟩, sx'⟩ := h'
    rcases x' with x' | x'
    · rcases E.opn a ⟨j', b', c', x', sx'⟩ with q | q
      · exact n q
      · obtain ⟨a2, z1, _, z3⟩ := G.opn j b c x
        rw [sx] at z1; cases z1
        obtain ⟨o, ho⟩ := z3.some
        rw [q] at ho; cases ho
    · have q := E.lw j' b' c' x'
      rw [wipeE_out hj'] at q
      rw [wipe_out' hj'] at sx'
      have := G.inj j j' a ⟨⟨b, c, x⟩, sx⟩ ⟨⟨b', c', .inr q⟩, sx'⟩
      subst this
      exact hj' hj
  refine ⟨⟨by rw [restE_len, hl]; exact G.len, G2.sub, fun j d e => ?_, fun j ns e => ?_, fun j b c e => ?_, fun j j' a x y => ?_, G2.tab⟩, ⟨E.fz, fun a o e nt n => E.keep a o e nt fun z => n (opn0 a z).1, E.dom, fun a ⟨j, b, c, x, sx⟩ => ?_, fun j c e => ⟨?_, rfl⟩, fun j b c e => ⟨?_, rfl⟩, fun j b c e => ?_, fun j c e => ?_⟩, fun j a h => (held j a h).elim (fun z => .inl z.2) fun z => .inr z.2⟩
  · rw [get] at e
    split at e
    · obtain ⟨v, h1, h2⟩ := G.val j d e; exact ⟨v, h1, h2.sub E.fz⟩
    · rename_i hj; obtain ⟨v, h1, h2⟩ := G2.val j d e; rw [wipe_out' hj] at h1; exact ⟨v, h1, h2⟩
  · rw [get] at e
    split at e
    · obtain ⟨v, h1, h2, h3⟩ := G.scr j ns e; exact ⟨v, h1, sqL_sub E.fz h2, h3⟩
    · rename_i hj; obtain ⟨v, h1, h2⟩ := G2.scr j ns e; rw [wipe_out' hj] at h1; exact ⟨v, h1, h2⟩
  · rw [get] at e
    split at e
    · rename_i hj
      obtain ⟨a, h1, h2, h3, _⟩ := ownk j hj b c e
      exact ⟨a, h1, h2, h3⟩
    · rename_i hj; obtain ⟨v, h1, h2⟩ := G2.opn j b c e; rw [wipe_out' hj] at h1; exact ⟨v, h1, h2⟩
  · rcases held j a x with ⟨hj, x'⟩ | ⟨hj, x'⟩
    · rcases held j' a y with ⟨hj', y'⟩ | ⟨hj', y'⟩
      · exact G.inj j j' a x' y'
      · exact (cross j j' a hj x' hj' y').elim
    · rcases held j' a y with ⟨hj', y'⟩ | ⟨hj', y'⟩
      · exact (cross j' j a hj' y' hj x').elim
      · exact G2.inj j j' a x' y'
  · rw [get] at x
    split at x
    · exact .inl ⟨j, b, c, x, sx⟩
    · rename_i hj
      rcases E.opn a ⟨j, b, c, x, by rw [wipe_out' hj]; exact sx⟩ with q | q
      · exact .inl (opn0 a q).1
      · exact .inr q
  · rw [get]
    split
    · exact ⟨c, e⟩
    · rename_i hj
      exact (E.bor j c (by rw [wipeE_out hj]; exact e)).1
  · rw [get]
    split
    · exact e
    · rename_i hj
      exact (E.lck j b c (by rw [wipeE_out hj]; exact e)).1
  · rw [get] at e
    split at e
    · exact e
    · rename_i hj
      have q := E.lw j b c e
      rw [wipeE_out hj] at q; exact q
  · rw [get] at e
    split at e
    · exact ⟨c, e⟩
    · rename_i hj
      obtain ⟨c', q⟩ := E.bw j c e
      rw [wipeE_out hj] at q; exact ⟨c', q⟩
theorem Gd.off {D : Addr} {o : HO} (G : Gd K ρ σ H F) (hF : F D = none) (hn : ∀ j, ¬ HeldAt ρ σ j D) (tb : TbK H (upd H D o)) : Gd K ρ σ (upd H D o) F := by
  refine ⟨G.len, G.sub.off hF, G.val, G.scr, fun j b c e => ?_, G.inj, tb _ G.tab.1, G.tab.2⟩
  obtain ⟨a, h1, h2, h3⟩ := G.opn j b c e
  have ne : a ≠ D := fun z => hn j ⟨⟨b, c, e⟩, by rw [h1, z]⟩
  exact ⟨a, h1, h2, h3.mono (Sub.refl F) fun u z => by rw [upd_ne ne]; exact z⟩
theorem Ext.off {D : Addr} {o : HO} (E : Ext ρ σ H F ρ' σ' H' F') (h : H D = none) : Ext ρ σ H F ρ' σ' (upd H' D o) F' := by
  refine ⟨E.fz, fun a u e nt n => ?_, fun a e z => ?_, E.opn, E.bor, E.lck, E.lw, E.bw⟩
  · obtain ⟨k1, k2⟩ := E.keep a u e nt n
    refine ⟨?_, k2⟩
    rw [upd_ne (fun z => by rw [z, h] at e; cases e)]; exact k1
  · by_cases ha : a = D
    · rw [ha, upd_same] at z; cases z
    · rw [upd_ne ha] at z; exact E.dom a e z
theorem Ext.stay {D : Addr} {o : HO} (E : Ext ρ σ H F ρ' σ' H' F') (hD : H D = some o) (hF : F D = none) (hn : ∀ j, ¬ HeldAt ρ σ j D) (nt : NT o := by exact nt_lst _) : H' D = some o ∧ F' D = none ∧ ∀ j, ¬ HeldAt ρ' σ' j D := by
  have no : ¬ OpenAt ρ σ D := fun z => by obtain ⟨i, hi⟩ := z.held; exact hn i hi
  obtain ⟨k1, k2⟩ := E.keep D o hD nt no
  refine ⟨k1, k2 hF, fun j ⟨⟨b, c, x⟩, sx⟩ => ?_⟩
  rcases x with x | x
  · rcases E.opn D ⟨j, b, c, x, sx⟩ with q | q
    · exact no q
    · rw [hD] at q; cases q
  · have q := E.lw j b c x
    have q2 := (E.lck j b c q).2
    exact hn j ⟨⟨b, c, .inr q⟩, by rw [← q2]; exact sx⟩
end
structure STs (k : Nat) (c : Ctx) (es : List Expr) (f : Tst) : Prop where
  ex : ∃ t, (∀ X, Fits k c X → PTs X es t) ∧ SndT c.g.K t f
def tyes : Tst := fun ρ => some (true, ρ)
theorem sts_nil {k : Nat} {c : Ctx} : STs k c [] tyes := ⟨tYes, fun _ _ => pts_nil, fun ρ σ H F Q b ρ' G e q => by cases e; exact q H F G (Ext.refl ..)⟩
theorem sts_one {k : Nat} {c : Ctx} {e : Expr} {f : Tst} (h : ST k c e f) : STs k c [e] f := by
  obtain ⟨⟨t, p, s⟩⟩ := h
  exact ⟨t, fun X hX => pts_one (p X hX), s⟩
def Ctx.blk (c : Ctx) (scope : Scope) : Ctx := { c with sc := relS scope c.sc, fn := fun x => scope.names.lookup x == some .cell, lam := none }
theorem Fits.blk {k : Nat} {c : Ctx} {X : Cx} (h : Fits k c X) (scope : Scope) (s : Shared) (H : Hp) (C : Addr) (cl : List (Str × Addr)) (fp : List Addr) : Fits k (c.blk scope) (X.blk s H scope (compEnvC scope cl C X.env) fp) := by
  obtain ⟨⟨T, rfl⟩, h2, h3, h4, _, _⟩ := h
  exact ⟨⟨(T.1, none), rfl⟩, h2, h3, h4, fun _ _ z => (by cases z), fun _ _ z => (by cases z)⟩
def lcGo (own : List Nat) (tg : Tgt) (ts : Tst) (el : Ex) : List D → List D → En → Option (List D × En)
  | [], acc, ρ => some (acc, ρ)
  | d :: ds, acc, ρ => (tg d ρ).bind fun ρ1 => (ts ρ1).bind fun p => if p.1 = true then (stl el p.2).bind fun q => match q.1 with
    | .v e => lcGo own tg ts el ds (acc ++ [e]) (wipeE q.2 own)
    | _ => none else lcGo own tg ts el ds acc (wipeE p.2 own)
def lkOut (lk : Option Nat) (own : List Nat) : Bool := match lk with
  | none => true
  | some i => !own.contains i
def xlc (own : List Nat) (sr : IEx) (tg : Tgt) (ts : Tst) (el : Ex) : Ex := fun ρ => (sr ρ).bind fun s => if lkOut s.2.1 own = true then
  (lcGo own tg ts el s.1 [] (wipeE (lockE s.2.1 s.2.2) own)).map fun r => (.fr (.l r.1), unlockE s.2.1 s.2.2 (restE (lockE s.2.1 s.2.2) own r.2)) else none
theorem Pst.step {PF : Hp → Prop} {a : Addr} {lk : Option Nat} {ds : List D} {ρ ρ' : En} {σ σ' : Sg} {H F H' F' : Hp} (mono : ∀ F F', Sub F F' → PF F → PF F') (p : Pst PF a lk ds ρ σ F) (E : Ext ρ σ H F ρ' σ' H' F') : Pst PF a lk ds ρ' σ' F' := by
  refine ⟨mono _ _ E.fz p.1, fun i hi => ?_⟩
  obtain ⟨⟨b, h1⟩, h2⟩ := p.2 i hi
  obtain ⟨q1, q2⟩ := E.lck i b _ h1
  exact ⟨⟨b, q1⟩, by rw [q2]; exact h2⟩
theorem Pst.wipe {PF : Hp → Prop} {a : Addr} {lk : Option Nat} {ds : List D} {ρ : En} {σ : Sg} {F : Hp} {own : List Nat} (p : Pst PF a lk ds ρ σ F) (h : lkOut lk own = true) : Pst PF a lk ds (wipeE ρ own) (L2.wipe σ own) F := by
  refine ⟨p.1, fun i hi => ?_⟩
  subst hi
  have hn : i ∉ own := by simpa [lkOut] using h
  obtain ⟨⟨b, h1⟩, h2⟩ := p.2 i rfl
  exact ⟨⟨b, by rw [wipeE_out hn]; exact h1⟩, by rw [wipe_out' hn]; exact h2⟩
theorem New.stay {H F F' H' : Hp} (n : New F H F' H') {D : Addr} {o : HO} (hD : H D = some o) (hF : F D = none) : H' D = some o ∧ F' D = none :=
  ⟨n.hp D o hD, n.st D (by rw [hD]; exact fun z => by cases z) hF⟩
section
variable {k : Nat} {c : Ctx} {tg iter elt : Expr} {ifs : List Expr} {scope : Scope} {own : List (Str × Nat)} {pos : Pos} {sr : IEx} {g : Tgt} {ts : Tst} {el : Ex} {T : List Nat}
theorem snd_lc {K : KK} {wi : TI} {gt : TG} {tt : TT} {te : TE} {own : List Nat} (hi : SndI K wi sr) (hg : SndG K gt g T) (hT : ∀ i ∈ T, i ∈ own) (ht : SndT K tt ts) (he : SndE K te el) : SndE K (tLc wi gt tt te own) (xlc own sr g ts el) := by
  intro ρ σ H F Q x ρ' G e q
  unfold xlc at e
  rw [Option.bind_eq_some_iff] at e
  obtain ⟨⟨ds, lk, ρ1⟩, e1, e⟩ := e
  simp only at e
  split at e
  · rename_i hlk
    rw [Option.map_eq_some_iff] at e
    obtain ⟨⟨out, ρ2⟩, e2, e⟩ := e
    cases e
    refine hi ρ σ H F _ ds lk ρ1 G e1 fun J H1 F1 G1 E1 S => ?_
    obtain ⟨⟨PF, pa, mono, P1, iter⟩, hlen⟩ := S
    intro L hL
    have GL := lock_gd (lk := lk) G1
    have GW := wipe_gd GL own
    have hLF : F1 L = none := G1.sub.none hL
    -- the invariant
    refine ⟨fun i m H' => m = ds.length - i ∧ i ≤ ds.length ∧ ∃ accv acc ρc Fc, Gd K ρc (L2.wipe σ own) H' Fc ∧ Ext (wipeE (lockE lk ρ1) own) (L2.wipe σ own) H1 F1 ρc (L2.wipe σ own) H' Fc ∧ wipeE ρc own = ρc ∧
      H' L = some (.lst accv) ∧ Fc L = none ∧ (∀ j, ¬ HeldAt ρc (L2.wipe σ own) j L) ∧ Dqs K Fc accv acc ∧ acc.length ≤ i ∧ lcGo own g ts el (ds.drop i) acc ρc = some (out, ρ2), ⟨_, rfl, Nat.zero_le _, [], [], wipeE (lockE lk ρ1) own, F1, ?_, ?_, ?_, upd_same, hLF, GW.fresh hL, .nil, Nat.zero_le _, e2⟩, ?_⟩
    · exact GW.off hLF (GW.fresh hL) (TbK.new hL)
    · exact (Ext.refl ..).off hL
    · apply List.ext_getElem?
      intro j
      rw [wipeE_get, wipeE_get, wipeE_len]
      split <;> rfl
    rintro i m H' ⟨rfl, hil, accv, acc, ρc, Fc, Gc, Ec, wc, hLc, hLf, hLn, hacc, hai, ec⟩
    have Pc : Pst PF pa lk ds ρc (L2.wipe σ own) Fc := (P1.wipe hlk).step mono Ec
    by_cases hlt : i < ds.length
    · obtain ⟨go, yl⟩ := (iter ρc _ H' Fc Gc Pc i).1 hlt
      have ed : ds.drop i = ds[i] :: ds.drop (i + 1) := List.drop_eq_getElem_cons hlt
      rw [ed] at ec
      unfold lcGo at ec
      rw [Option.bind_eq_some_iff] at ec
      obtain ⟨ρ3, f1, ec⟩ := ec
      rw [Option.bind_eq_some_iff] at ec
      obtain ⟨⟨b, ρ4⟩, f2, ec⟩ := ec
      refine .inr ⟨go, fun H' => i + 1 ≤ ds.length ∧ ∃ accv acc ρc Fc, Gd K ρc (L2.wipe σ own) H' Fc ∧ Ext (wipeE (lockE lk ρ1) own) (L2.wipe σ own) H1 F1 ρc (L2.wipe σ own) H' Fc ∧ wipeE ρc own = ρc ∧
        H' L = some (.lst accv) ∧ Fc L = none ∧ (∀ j, ¬ HeldAt ρc (L2.wipe σ own) j L) ∧ Dqs K Fc accv acc ∧ acc.length ≤ i + 1 ∧ lcGo own g ts el (ds.drop (i + 1)) acc ρc = some (out, ρ2), fun H2 h2 => ⟨_, by omega, rfl, h2⟩, fun xv H2 y => ?_⟩
      obtain ⟨F2, d, n2, hd, hq⟩ := yl xv H2 y
      rw [List.getElem?_eq_getElem hlt] at hd; cases hd
      have G2 := n2.gd Gc
      have E2 := Ec.trans (n2.ext Gc)
      obtain ⟨s1, s2⟩ := New.stay n2 hLc hLf
      have hacc2 := hacc.sub n2.fz
      refine hg ρc _ H2 F2 _ xv ds[i] ρ3 G2 hq f1 fun σ2 G3 E3 hw => ?_
      have hw2 : L2.wipe σ2 own = L2.wipe σ own := (hw own hT).trans (wipe_idem σ own)
      refine ⟨hw2, ?_⟩
      obtain ⟨s3, s4, s5⟩ := E3.stay s1 s2 hLn
      refine ht ρ3 σ2 H2 F2 _ b ρ4 G3 f2 fun H4 F4 G4 E4 => ?_
      obtain ⟨t3, t4, t5⟩ := E4.stay s3 s4 s5
      have hacc4 := hacc2.sub (E3.fz.trans E4.fz)
      have E24 := (E2.trans E3).trans E4
      have widem : ∀ ρx : En, wipeE (wipeE ρx own) own = wipeE ρx own := fun ρx => by
        apply List.ext_getElem?
        intro j
        rw [wipeE_get, wipeE_get, wipeE_len]
        split <;> rfl
      have hheld : ∀ (ρx : En), (∀ j, ¬ HeldAt ρx σ2 j L) → ∀ j, ¬ HeldAt (wipeE ρx own) (L2.wipe σ own) j L := fun ρx hx j ⟨⟨b', c', x⟩, sx⟩ => by
        have hj : j ∉ own := fun z => by rcases x with x | x <;> (have := wipeE_in z _ x; cases this)
        rw [wipeE_out hj] at x
        rw [← hw2, wipe_out' hj] at sx
        exact hx j ⟨⟨b', c', x⟩, sx⟩
      cases b with
      | false =>
        simp only [Bool.false_eq_true, if_false] at ec ⊢
        refine ⟨hlt, accv, acc, wipeE ρ4 own, F4, by rw [← hw2]; exact wipe_gd G4 own, wipe_ext E24 hw2, widem _, t3, t4, hheld _ t5, hacc4, by omega, ec⟩
      | true =>
        simp only [if_true] at ec ⊢
        rw [Option.bind_eq_some_iff] at ec
        obtain ⟨⟨xe, ρ5⟩, f3, ec⟩ := ec
        simp only at ec
        split at ec
        · rename_i de
          refine he.stl ρ4 σ2 H4 F4 _ _ ρ5 G4 f3 fun yv H5 F5 G5 E5 r5 => ?_
          obtain ⟨u3, u4, u5⟩ := E5.stay t3 t4 t5
          refine ⟨accv, u3, by rw [hacc.length]; omega, hlt, accv ++ [yv], acc ++ [de], wipeE ρ5 own, F5, ?_, ?_, widem _, upd_same, u4, hheld _ u5, (hacc4.sub E5.fz).append (.cons r5 .nil), by rw [List.length_append]; simp only [List.length_cons, List.length_nil]; omega, ec⟩
          · have := wipe_gd (G5.off (o := .lst (accv ++ [yv])) u4 u5 (TbK.lst u3)) own
            rw [hw2] at this; exact this
          · exact (wipe_ext (E24.trans E5) hw2).off hL
        · cases ec
    · have hi : i = ds.length := by omega
      refine .inl ⟨(iter ρc _ H' Fc Gc Pc i).2 (by omega), ?_⟩
      rw [hi, List.drop_length] at ec
      unfold lcGo at ec
      cases ec
      obtain ⟨R1, R2, R3⟩ := rest_ok GL Gc Ec
      obtain ⟨U1, U2, U3⟩ := unlock_ok R1 R2
      refine q (.ref L) H' Fc U1 (E1.trans U2) ⟨L, rfl, none_back E1.dom hL, hLf, ⟨accv, hLc, hacc, by show out.length ≤ sizeLine; omega⟩, fun j hj => ?_⟩
      rcases R3 j L (U3 j L hj) with z | z
      · exact GL.fresh hL j z
      · exact hLn j z
  · cases e
theorem se_lc (hi : SI k c tg iter sr) (hok : blkC c.N c.sc scope own = true) (hg : SG k (c.blk scope) tg g T) (hT : ∀ i ∈ T, i ∈ own.map (·.2)) (ht : STs k (c.blk scope) ifs ts) (he : SE k (c.blk scope) elt el)
    (hs : ∀ (env : Env) x, foldedSetIterable iter env x = pure x := by intro _ _; rfl) (hcm : c.calm = true := by rfl) : SE k c (.ListComp elt [⟨tg, iter, ifs, 0⟩] scope pos) (xlc (own.map (·.2)) sr g ts el) := by
  obtain ⟨⟨wi, pi, si⟩⟩ := hi
  obtain ⟨⟨gt, pg, sg⟩⟩ := hg
  obtain ⟨⟨tt, pt, st⟩⟩ := ht
  obtain ⟨⟨te, pe, se⟩⟩ := he
  refine ⟨tLc wi gt tt te (own.map (·.2)), fun X hX => ?_, snd_lc si sg hT st se⟩
  have hf := fun s H C cl fp => hX.blk scope s H C cl fp
  have h1 := pi X hX
  have hc := (hX.calm hcm)
  have hn := hX.nd
  have hb : BlkOk X.N X.env.scope scope own := by
    obtain ⟨TT0, this⟩ := hX.eq
    subst this
    exact blkOk_by hok
  exact pe_lc hc hn h1 hb (fun s H C cl fp => pg _ (hf s H C cl fp)) (fun s H C cl fp => pt _ (hf s H C cl fp)) (fun s H C cl fp => pe _ (hf s H C cl fp)) (hs _)
end
def rm (H : Hp) (L : Addr) : Hp := fun b => if b = L then none else H b
theorem rm_ne {H : Hp} {L b : Addr} (h : b ≠ L) : rm H L b = H b := by unfold rm; rw [if_neg h]
theorem rm_eq {H : Hp} {L : Addr} : rm H L L = none := by unfold rm; rw [if_pos rfl]
section
variable {K : KK} {ρ ρ' : En} {σ σ' : Sg} {H F H' F' : Hp} {L : Addr}
theorem TbK.rm {xs : List V} (h : H L = some (.lst xs)) : TbK H (R.rm H L) := TbK.but h (nt_lst _) (nc_lst _ _) fun b u n q => by rw [rm_ne n]; exact q
theorem Gd.rm (G : Gd K ρ σ H F) (hF : F L = none) (hn : ∀ j, ¬ HeldAt ρ σ j L) (tb : TbK H (R.rm H L)) : Gd K ρ σ (R.rm H L) F := by
  refine ⟨G.len, fun a o e => ?_, G.val, G.scr, fun j b c e => ?_, G.inj, tb _ G.tab.1, G.tab.2⟩
  · rw [rm_ne (ne_of_none e hF)]; exact G.sub a o e
  · obtain ⟨a, h1, h2, h3⟩ := G.opn j b c e
    have ne : a ≠ L := fun z => hn j ⟨⟨b, c, e⟩, by rw [h1, z]⟩
    exact ⟨a, h1, h2, h3.mono (Sub.refl F) fun u z => by rw [rm_ne ne]; exact z⟩
theorem Ext.rm (E : Ext ρ σ H F ρ' σ' H' F') : Ext ρ σ (R.rm H L) F ρ' σ' (R.rm H' L) F' := by
  refine ⟨E.fz, fun a o e nt n => ?_, fun a e => ?_, fun a h => ?_, E.bor, E.lck, E.lw, E.bw⟩
  · have ne : a ≠ L := fun z => by rw [z, rm_eq] at e; cases e
    rw [rm_ne ne] at e ⊢
    exact E.keep a o e nt n
  · have ne : a ≠ L := fun z => e (by rw [z, rm_eq])
    rw [rm_ne ne] at e ⊢
    exact E.dom a e
  · rcases E.opn a h with q | q
    · exact .inl q
    · refine .inr ?_
      by_cases e : a = L
      · rw [e, rm_eq]
      · rw [rm_ne e]; exact q
end
inductive Fl where
  | nx | bk | ct
  | rt (x : XV)
  | ex (n : Str)
abbrev SEx := En → Option (Fl × En)
def OwnAt (ρ : En) (σ : Sg) (a : Addr) : Prop := ∃ (i : Nat) (c : Ct), ρ[i]? = some (.o false c) ∧ σ[i]? = some (some (.ref a))
def RR (K : KK) (ρ : En) (σ : Sg) (H : Hp) (ρ' : En) (σ' : Sg) (H' F' : Hp) (v : V) : XV → Prop
  | .v d => Dq K F' v d
  | .sl _ => False
  | .fr c => ∃ a, v = .ref a ∧ (H a = none ∨ OwnAt ρ σ a) ∧ F' a = none ∧ CtR K F' H' a c ∧ ∀ i, ¬ HeldAt ρ' σ' i a
def EndsOk (g : Gb) (ρ : En) (σ : Sg) (H F : Hp) (D : Ends) (W : WX) (ρ' : En) : Fl → Prop
  | .nx => ∀ σ' H' F', Gd g.K ρ' σ' H' F' → Ext ρ σ H F ρ' σ' H' F' → D.nx σ' H'
  | .bk => ∀ σ' H' F', Gd g.K ρ' σ' H' F' → Ext ρ σ H F ρ' σ' H' F' → D.bk σ' H'
  | .ct => ∀ σ' H' F', Gd g.K ρ' σ' H' F' → Ext ρ σ H F ρ' σ' H' F' → D.ct σ' H'
  | .rt x => ∀ v σ' H' F', Gd g.K ρ' σ' H' F' → Ext ρ σ H F ρ' σ' H' F' → RR g.K ρ σ H ρ' σ' H' F' v x → D.rt v H'
  | .ex n => ∀ Cl σ' H' F', g.mg n = some (.ref Cl) → Gd g.K ρ' σ' H' F' → Ext ρ σ H F ρ' σ' H' F' → W (.ref Cl) none σ' H'
def SndS (g : Gb) (t : WX → TS) (f : SEx) : Prop :=
  ∀ (ρ : En) (σ : Sg) (H F : Hp) (D : Ends) (W : WX) (fl : Fl) (ρ' : En), Gd g.K ρ σ H F → f ρ = some (fl, ρ') → EndsOk g ρ σ H F D W ρ' fl → t W D σ H
structure FitsS (k : Nat) (c : Ctx) (X : Cx) (W : WX) : Prop extends Fits k c X where
  po : c.calm = true → PassesOwn (model X.prog X.w) X.A X.env X.xe
  tk : Takes X W
  stk : X.stack = X.env :: X.outer
  frm : X.env.frame = some X.env.locals
structure SS (k : Nat) (c : Ctx) (st : Stmt) (f : SEx) : Prop where
  ex : ∃ t, (∀ X W, FitsS k c X W → PS X st (t W)) ∧ SndS c.g t f
structure SSs (k : Nat) (c : Ctx) (st : List Stmt) (f : SEx) : Prop where
  ex : ∃ t, (∀ X W, FitsS k c X W → PSs X st (t W)) ∧ SndS c.g t f
theorem OwnAt.back {K : KK} {ρ ρ1 : En} {σ σ1 : Sg} {H F H1 F1 : Hp} {a : Addr} (G1 : Gd K ρ1 σ1 H1 F1) (E : Ext ρ σ H F ρ1 σ1 H1 F1) (h : OwnAt ρ1 σ1 a) : H a = none ∨ OwnAt ρ σ a := by
  obtain ⟨i, c, h1, h2⟩ := h
  rcases E.opn a ⟨i, false, c, h1, h2⟩ with ⟨j, b, c', q1, q2⟩ | q
  · cases b with
    | false => exact .inr ⟨j, c', q1, q2⟩
    | true =>
      obtain ⟨⟨c2, q3⟩, q4⟩ := E.bor j c' q1
      rw [q2] at q4
      have := G1.inj i j a ⟨⟨_, _, .inl h1⟩, h2⟩ ⟨⟨_, _, .inl q3⟩, q4⟩
      subst this
      rw [h1] at q3; cases q3
  · exact .inl q
theorem RR.later {K : KK} {ρ ρ1 ρ' : En} {σ σ1 σ' : Sg} {H F H1 F1 H' F' : Hp} {v : V} {x : XV} (G1 : Gd K ρ1 σ1 H1 F1) (E : Ext ρ σ H F ρ1 σ1 H1 F1) (h : RR K ρ1 σ1 H1 ρ' σ' H' F' v x) : RR K ρ σ H ρ' σ' H' F' v x := by
  cases x with
  | v d => exact h
  | sl _ => exact h
  | fr c =>
    obtain ⟨a, h1, h2, h3⟩ := h
    refine ⟨a, h1, ?_, h3⟩
    rcases h2 with h2 | h2
    · exact .inl (none_back E.dom h2)
    · exact h2.back G1 E
theorem EndsOk.later {g : Gb} {ρ ρ1 ρ' : En} {σ σ1 : Sg} {H F H1 F1 : Hp} {D : Ends} {W : WX} {fl : Fl} (G1 : Gd g.K ρ1 σ1 H1 F1) (E : Ext ρ σ H F ρ1 σ1 H1 F1) (h : EndsOk g ρ σ H F D W ρ' fl) : EndsOk g ρ1 σ1 H1 F1 D W ρ' fl := by
  cases fl with
  | nx => exact fun σ' H' F' G' E' => h σ' H' F' G' (E.trans E')
  | bk => exact fun σ' H' F' G' E' => h σ' H' F' G' (E.trans E')
  | ct => exact fun σ' H' F' G' E' => h σ' H' F' G' (E.trans E')
  | rt x => exact fun v σ' H' F' G' E' r => h v σ' H' F' G' (E.trans E') (r.later G1 E)
  | ex n => exact fun Cl σ' H' F' m G' E' => h Cl σ' H' F' m G' (E.trans E')
section
variable {k : Nat} {c : Ctx} {st : Stmt} {sts : List Stmt} {e a b : Expr} {f f1 f2 : Ex} {g g1 g2 : SEx} {ts : Tst} {pos : Pos}
def sNil : SEx := fun ρ => some (.nx, ρ)
def sSeq (g1 g2 : SEx) : SEx := fun ρ => (g1 ρ).bind fun p => match p.1 with
  | .nx => g2 p.2
  | x => some (x, p.2)
theorem sss_nil : SSs k c [] sNil := ⟨fun _ => tNext, fun _ _ _ => pss_nil, fun ρ σ H F D W fl ρ' G e q => by cases e; exact q σ H F G (Ext.refl ..)⟩
theorem snd_seq {gb : Gb} {t u : WX → TS} (h1 : SndS gb t g1) (h2 : SndS gb u g2) : SndS gb (fun W => tSeq (t W) (u W)) (sSeq g1 g2) := by
  intro ρ σ H F D W fl ρ' G e q
  unfold sSeq at e
  rw [Option.bind_eq_some_iff] at e
  obtain ⟨⟨x, ρ1⟩, e1, e⟩ := e
  refine h1 ρ σ H F { D with nx := u W D } W x ρ1 G e1 ?_
  cases x with
  | nx => exact fun σ1 H1 F1 G1 E1 => h2 ρ1 σ1 H1 F1 D W fl ρ' G1 e (q.later G1 E1)
  | bk => cases e; exact q
  | ct => cases e; exact q
  | rt x => cases e; exact q
  | ex n => cases e; exact q
theorem sss_cons (h1 : SS k c st g1) (h2 : SSs k c sts g2) : SSs k c (st :: sts) (sSeq g1 g2) := by
  obtain ⟨⟨t1, p1, s1⟩⟩ := h1
  obtain ⟨⟨t2, p2, s2⟩⟩ := h2
  exact ⟨_, fun X W hX => pss_cons (p1 X W hX) (p2 X W hX), snd_seq s1 s2⟩
theorem sss_one (h1 : SS k c st g1) : SSs k c [st] g1 := by
  obtain ⟨⟨t1, p1, s1⟩⟩ := h1
  exact ⟨_, fun X W hX => pss_one (p1 X W hX), s1⟩
def sBrk : SEx := fun ρ => some (.bk, ρ)
def sCnt : SEx := fun ρ => some (.ct, ρ)
def sExp (f : Ex) : SEx := fun ρ => (f ρ).map fun p => (.nx, p.2)
theorem ss_expr (h : SE k c e f) (hs : ∀ env, swapsWith e none pos.line env = pure false := by intro _; rfl) : SS k c (.Expr e pos) (sExp f) := by
  obtain ⟨⟨t, p, s⟩⟩ := h
  refine ⟨fun _ => tDrop t, fun X W hX => ps_expr (p X hX.toFits) (hs _), ?_⟩
  intro ρ σ H F D W fl ρ' G e q
  unfold sExp at e
  rw [Option.map_eq_some_iff] at e
  obtain ⟨⟨x, ρ1⟩, e1, e⟩ := e
  cases e
  exact s ρ σ H F _ _ _ G e1 fun v H' F' G' E' _ => q σ H' F' G' E'
def sRet (f : Ex) : SEx := fun ρ => (f ρ).bind fun p => match p.1 with
  | .v d => some (.rt (.v d), p.2)
  | .fr ct => some (.rt (.fr ct), p.2)
  | .sl i => match p.2[i]? with
    | some (.v d) => some (.rt (.v d), p.2)
    | some (.o false ct) => some (.rt (.fr ct), p.2.set i .un)
    | _ => none
def sRetN : SEx := fun ρ => some (.rt (.v .none), ρ)
theorem unset_ok {K : KK} {ρ : En} {σ : Sg} {H F : Hp} {i : Nat} {ct : Ct} (G : Gd K ρ σ H F) (hi : ρ[i]? = some (.o false ct)) : Gd K (ρ.set i .un) σ H F ∧ Ext ρ σ H F (ρ.set i .un) σ H F ∧ ∀ j a, HeldAt (ρ.set i .un) σ j a → j ≠ i ∧ HeldAt ρ σ j a := by
  have il := (List.getElem?_eq_some_iff.mp hi).1
  have held : ∀ j a, HeldAt (ρ.set i .un) σ j a → j ≠ i ∧ HeldAt ρ σ j a := fun j a ⟨⟨b, c, x⟩, sx⟩ => by
    rw [set_get il] at x
    split at x
    · rcases x with x | x <;> cases x
    · rename_i z; exact ⟨z, ⟨b, c, x⟩, sx⟩
  have get : ∀ (j : Nat) (s : Sl), (ρ.set i .un)[j]? = some s → s ≠ .un → j ≠ i ∧ ρ[j]? = some s := fun j s h n => by
    rw [set_get il] at h
    split at h
    · cases h; exact absurd rfl n
    · rename_i z; exact ⟨z, h⟩
  refine ⟨⟨by rw [List.length_set]; exact G.len, G.sub, fun j d h => G.val j d (get j _ h (fun z => by cases z)).2, fun j ns h => G.scr j ns (get j _ h (fun z => by cases z)).2, fun j b c h => ?_, fun j j' a x y => G.inj j j' a (held j a x).2 (held j' a y).2, G.tab⟩,
    ⟨Sub.refl F, fun a o e _ _ => ⟨e, fun z => z⟩, fun _ z => z, fun a ⟨j, b, c, x, sx⟩ => .inl ⟨j, b, c, (get j _ x (fun z => by cases z)).2, sx⟩, fun j c e => ⟨⟨c, ?_⟩, rfl⟩, fun j b c e => ⟨?_, rfl⟩, fun j b c e => (get j _ e (fun z => by cases z)).2, fun j c e => ⟨c, (get j _ e (fun z => by cases z)).2⟩⟩, held⟩
  · rcases h with h | h
    · exact G.opn j b c (.inl (get j _ h (fun z => by cases z)).2)
    · exact G.opn j b c (.inr (get j _ h (fun z => by cases z)).2)
  · have z : j ≠ i := fun z => by subst z; rw [hi] at e; cases e
    rw [set_get il, if_neg z]; exact e
  · have z : j ≠ i := fun z => by subst z; rw [hi] at e; cases e
    rw [set_get il, if_neg z]; exact e
theorem ss_ret (h : SE k c e f) : SS k c (.Return (some e) pos) (sRet f) := by
  obtain ⟨⟨t, p, s⟩⟩ := h
  refine ⟨fun _ => tRet t, fun X W hX => ps_ret (p X hX.toFits), ?_⟩
  intro ρ σ H F D W fl ρ' G e q
  unfold sRet at e
  rw [Option.bind_eq_some_iff] at e
  obtain ⟨⟨x, ρ1⟩, e1, e⟩ := e
  refine s ρ σ H F _ _ _ G e1 fun v H' F' G' E' r => ?_
  simp only at e
  cases x with
  | v d => cases e; exact q v σ H' F' G' E' r
  | fr ct =>
    cases e
    obtain ⟨a, h1, h2, h3, h4, h5⟩ := r
    exact q v σ H' F' G' E' ⟨a, h1, .inl h2, h3, h4, h5⟩
  | sl i =>
    have r : σ[i]? = some (some v) := r
    simp only at e
    split at e
    · rename_i d h
      cases e
      obtain ⟨w, q1, q2⟩ := G'.val i d h
      rw [r] at q1; cases q1
      exact q v σ H' F' G' E' q2
    · rename_i ct h
      cases e
      obtain ⟨a, q1, q2, q3⟩ := G'.opn i _ _ (.inl h)
      rw [r] at q1; cases q1
      obtain ⟨u1, u2, u3⟩ := unset_ok G' h
      refine q _ σ H' F' u1 (E'.trans u2) ⟨a, rfl, ?_, q2, q3, fun j hj => ?_⟩
      · exact OwnAt.back G' E' ⟨i, ct, h, r⟩
      · obtain ⟨z1, z2⟩ := u3 j a hj
        exact z1 (G'.inj j i a z2 ⟨⟨_, _, .inl h⟩, r⟩)
    · cases e
def sIf (ts : Tst) (g1 g2 : SEx) : SEx := fun ρ => (ts ρ).bind fun p => if p.1 = true then g1 p.2 else g2 p.2
theorem ss_if {xs ys : List Stmt} (h0 : ST k c e ts) (h1 : SSs k c xs g1) (h2 : SSs k c ys g2) : SS k c (.If e xs ys pos) (sIf ts g1 g2) := by
  obtain ⟨⟨t0, p0, s0⟩⟩ := h0
  obtain ⟨⟨t1, p1, s1⟩⟩ := h1
  obtain ⟨⟨t2, p2, s2⟩⟩ := h2
  refine ⟨fun W => tIfS t0 (t1 W) (t2 W), fun X W hX => ps_if (p0 X hX.toFits) (p1 X W hX) (p2 X W hX), ?_⟩
  intro ρ σ H F D W fl ρ' G e q
  unfold sIf at e
  rw [Option.bind_eq_some_iff] at e
  obtain ⟨⟨b, ρ1⟩, e1, e⟩ := e
  refine s0 ρ σ H F _ b ρ1 G e1 fun H' F' G' E' => ?_
  cases b with
  | true => exact s1 ρ1 σ H' F' D W fl ρ' G' e (q.later G' E')
  | false => exact s2 ρ1 σ H' F' D W fl ρ' G' e (q.later G' E')
def sSet (i : Nat) (f : Ex) : SEx := fun ρ => (stl f ρ).bind fun p => match p.1 with
  | .v d => (setV i d p.2).map fun ρ' => (.nx, ρ')
  | _ => none
def setO (i : Nat) (ct : Ct) (ρ : En) : Option En := match ρ[i]? with
  | some .un => some (ρ.set i (.o false ct))
  | some (.v _) => some (ρ.set i (.o false ct))
  | some (.o false _) => some (ρ.set i (.o false ct))
  | _ => none
def sSetO (i : Nat) (f : Ex) : SEx := fun ρ => (f ρ).bind fun p => match p.1 with
  | .fr ct => (setO i ct p.2).map fun ρ' => (.nx, ρ')
  | _ => none
theorem setO_ok {K : KK} {ρ ρ1 ρ' : En} {σ : Sg} {H F H1 F1 : Hp} {i : Nat} {v : V} {ct : Ct} (G : Gd K ρ1 σ H1 F1) (E : Ext ρ σ H F ρ1 σ H1 F1) (r : XR K H ρ1 σ H1 F1 v (.fr ct)) (hset : setO i ct ρ1 = some ρ') : Gd K ρ' (σ.set i (some v)) H1 F1 ∧ Ext ρ σ H F ρ' (σ.set i (some v)) H1 F1 := by
  obtain ⟨a, rfl, hn, hF, hc, hh⟩ := r
  have main : ∀ s, ρ1[i]? = some s → (∀ c, s ≠ .o true c) → (∀ b c, s ≠ .k b c) → ρ' = ρ1.set i (.o false ct) → Gd K ρ' (σ.set i (some (.ref a))) H1 F1 ∧ Ext ρ σ H F ρ' (σ.set i (some (.ref a))) H1 F1 := fun s hs n1 n2 e => by
    subst e
    clear hset
    have il := (List.getElem?_eq_some_iff.mp hs).1
    have iσ : i < σ.length := by rw [G.len]; exact il
    have held : ∀ j x, HeldAt (ρ1.set i (.o false ct)) (σ.set i (some (.ref a))) j x → (j = i ∧ x = a) ∨ (j ≠ i ∧ HeldAt ρ1 σ j x) := fun j x ⟨⟨b, c, y⟩, sx⟩ => by
      by_cases z : j = i
      · subst z; rw [set_get iσ, if_pos rfl] at sx; cases sx; exact .inl ⟨rfl, rfl⟩
      · rw [set_get iσ, if_neg z] at sx
        rw [set_get il, if_neg z] at y
        exact .inr ⟨z, ⟨b, c, y⟩, sx⟩
    refine ⟨⟨by rw [List.length_set, List.length_set]; exact G.len, G.sub, fun j d' e => ?_, fun j ns e => ?_, fun j b c e => ?_, fun j j' x y z => ?_, G.tab⟩,
      ⟨E.fz, E.keep, E.dom, fun x ⟨j, b, c, y, sx⟩ => ?_, fun j c e => ?_, fun j b c e => ?_, fun j b c e => ?_, fun j c e => ?_⟩⟩
    · rw [set_get il] at e
      split at e
      · cases e
      · rename_i z; obtain ⟨w, q1, q2⟩ := G.val j d' e; exact ⟨w, by rw [set_get iσ, if_neg z]; exact q1, q2⟩
    · rw [set_get il] at e
      split at e
      · cases e
      · rename_i z; obtain ⟨w, q1, q2⟩ := G.scr j ns e; exact ⟨w, by rw [set_get iσ, if_neg z]; exact q1, q2⟩
    · rw [set_get il] at e
      split at e
      · rename_i z; subst z
        rcases e with e | e
        · cases e; exact ⟨a, by rw [set_get iσ, if_pos rfl], hF, hc⟩
        · cases e
      · rename_i z; obtain ⟨w, q1, q2⟩ := G.opn j b c e; exact ⟨w, by rw [set_get iσ, if_neg z]; exact q1, q2⟩
    · rcases held j x y with ⟨h1, h2⟩ | ⟨h1, h2⟩
      · rcases held j' x z with ⟨h3, h4⟩ | ⟨h3, h4⟩
        · rw [h1, h3]
        · subst h2; exact (hh _ h4).elim
      · rcases held j' x z with ⟨h3, h4⟩ | ⟨h3, h4⟩
        · subst h4; exact (hh _ h2).elim
        · exact G.inj j j' x h2 h4
    · rw [set_get il] at y
      split at y
      · rename_i z; subst z; rw [set_get iσ, if_pos rfl] at sx; cases sx; exact .inr hn
      · rename_i z; rw [set_get iσ, if_neg z] at sx; exact E.opn x ⟨j, b, c, y, sx⟩
    · obtain ⟨⟨c', q1⟩, q2⟩ := E.bor j c e
      have z : j ≠ i := fun z => by subst z; rw [hs] at q1; exact n1 c' (Option.some.inj q1)
      exact ⟨⟨c', by rw [set_get il, if_neg z]; exact q1⟩, by rw [set_get iσ, if_neg z]⟩
    · obtain ⟨q1, q2⟩ := E.lck j b c e
      have z : j ≠ i := fun z => by subst z; rw [hs] at q1; exact n2 b c (Option.some.inj q1)
      exact ⟨by rw [set_get il, if_neg z]; exact q1, by rw [set_get iσ, if_neg z]⟩
    · rw [set_get il] at e
      split at e
      · cases e
      · exact E.lw j b c e
    · rw [set_get il] at e
      split at e
      · cases e
      · exact E.bw j c e
  unfold setO at hset
  split at hset
  · cases hset; rename_i h; exact main _ h (fun _ z => by cases z) (fun _ _ z => by cases z) rfl
  · cases hset; rename_i h; exact main _ h (fun _ z => by cases z) (fun _ _ z => by cases z) rfl
  · cases hset; rename_i h; exact main _ h (fun _ z => by cases z) (fun _ _ z => by cases z) rfl
  · cases hset
theorem snd_set {gb : Gb} {t : TE} {i : Nat} (h : SndE gb.K t f) : SndS gb (fun _ => tAsg t (gName i)) (sSet i f) := by
  intro ρ σ H F D W fl ρ' G e q
  unfold sSet at e
  rw [Option.bind_eq_some_iff] at e
  obtain ⟨⟨x, ρ1⟩, e1, e⟩ := e
  simp only at e
  split at e
  · rename_i d
    rw [Option.map_eq_some_iff] at e
    obtain ⟨ρ2, e2, e⟩ := e
    cases e
    refine h.stl ρ σ H F _ _ _ G e1 fun v H' F' G' E' r => ?_
    obtain ⟨h1, h2⟩ := setV_ok G' r e2
    exact q _ H' F' h1 (E'.trans h2)
  · cases e
theorem snd_setO {gb : Gb} {t : TE} {i : Nat} (h : SndE gb.K t f) : SndS gb (fun _ => tAsg t (gName i)) (sSetO i f) := by
  intro ρ σ H F D W fl ρ' G e q
  unfold sSetO at e
  rw [Option.bind_eq_some_iff] at e
  obtain ⟨⟨x, ρ1⟩, e1, e⟩ := e
  simp only at e
  split at e
  · rename_i ct
    rw [Option.map_eq_some_iff] at e
    obtain ⟨ρ2, e2, e⟩ := e
    cases e
    refine h ρ σ H F _ _ _ G e1 fun v H' F' G' E' r => ?_
    obtain ⟨h1, h2⟩ := setO_ok G' E' r e2
    exact q _ H' F' h1 h2
  · cases e
structure Plain (c : Ctx) (e : Expr) (x : Str) (pos' pos : Pos) : Prop where
  sw : ∀ env : Env, env.scope = c.sc → swapsWith e (some (.Name x pos')) pos.line env = pure false
theorem ss_set (i : Nat) {x : Str} {pos' : Pos} (hi : c.N[i]? = some x) (hx : Loc c.sc x) (hf : c.fn x = true ∨ c.sc.names.lookup x = some .local) (h : SE k c e f) (hs : Plain c e x pos' pos) : SS k c (.Assign [.Name x pos'] e pos) (sSet i f) := by
  obtain ⟨⟨t, p, s⟩⟩ := h
  refine ⟨fun _ => tAsg t (gName i), fun X W hX => ?_, snd_set s⟩
  have q := p X hX.toFits
  have nd := hX.nd
  have sw := hs.sw X.env
  obtain ⟨⟨⟨TT0, rfl⟩, _⟩, _⟩ := hX
  exact ps_set nd hi hx q (sw rfl) hf
theorem ss_setO (i : Nat) {x : Str} {pos' : Pos} (hi : c.N[i]? = some x) (hx : Loc c.sc x) (hf : c.fn x = true ∨ c.sc.names.lookup x = some .local) (h : SE k c e f) (hs : Plain c e x pos' pos) : SS k c (.Assign [.Name x pos'] e pos) (sSetO i f) := by
  obtain ⟨⟨t, p, s⟩⟩ := h
  refine ⟨fun _ => tAsg t (gName i), fun X W hX => ?_, snd_setO s⟩
  have q := p X hX.toFits
  have nd := hX.nd
  have sw := hs.sw X.env
  obtain ⟨⟨⟨TT0, rfl⟩, _⟩, _⟩ := hX
  exact ps_set nd hi hx q (sw rfl) hf
end
section
variable {k : Nat} {c : Ctx} {st : Stmt} {sts : List Stmt} {e a b : Expr} {f f1 f2 : Ex} {g g1 g2 : SEx} {ts : Tst} {pos : Pos}
section
variable {tg iter elt tg1 iter1 : Expr} {ifs ifs1 : List Expr} {scope : Scope} {own : List (Str × Nat)} {own1 : List Nat} {sr sr1 : IEx} {gg gg1 : Tgt} {ts1 : Tst} {el : Ex} {T T1 : List Nat} {spos : Pos}
structure InPl (c : Ctx) (e : Expr) (x : Str) (px spos : Pos) : Prop where
  loc : c.sc.names.lookup x = some .local
  sw : ∀ env : Env, env.scope = c.sc → env.scope.kind = .function → swapsWith e (some (.Name x px)) spos.line env = pure true
theorem inPl {x : Str} {px spos : Pos} {gs : List Comprehension} (hl : c.sc.names.lookup x = some .local) (hp : (px.line == pos.line) = true) (ha : (scope.names.any fun (n, k) => n == x && (k == .local || k == .cell)) = false) : InPl c (.ListComp elt gs scope pos) x px spos :=
  ⟨hl, fun env he hk => sw_true hk (by rw [he]; exact hl) hp ha⟩
theorem lc_st {x : Str} {px : Pos} (i : Nat) (hi0 : c.N[i]? = some x) (ip : InPl c (.ListComp elt [⟨tg, iter, ifs, 0⟩] scope pos) x px spos) (hi : SI k c tg iter sr) (hok : blkC c.N c.sc scope own = true) (hkind : c.sc.kind = .function) (hg : SG k (c.blk scope) tg gg T) (hT : ∀ i ∈ T, i ∈ own.map (·.2)) (ht : STs k (c.blk scope) ifs ts) (he : SE k (c.blk scope) elt el)
    (hs : ∀ (env : Env) x, foldedSetIterable iter env x = pure x) (hcm : c.calm = true) : ∃ t, (∀ X W, FitsS k c X W → PS X (.Assign [.Name x px] (.ListComp elt [⟨tg, iter, ifs, 0⟩] scope pos) spos) (tAsg t (gName i))) ∧ SndE c.g.K t (xlc (own.map (·.2)) sr gg ts el) := by
  obtain ⟨⟨wi, pi, si⟩⟩ := hi
  obtain ⟨⟨gt, pg, sg⟩⟩ := hg
  obtain ⟨⟨tt, pt, st⟩⟩ := ht
  obtain ⟨⟨te, pe, se⟩⟩ := he
  refine ⟨tLc wi gt tt te (own.map (·.2)), fun X W hX => ?_, snd_lc si sg hT st se⟩
  have hf := fun s H C cl fp => hX.toFits.blk scope s H C cl fp
  have h1 := pi X hX.toFits
  have hc := (hX.calm hcm)
  have hn := hX.nd
  have hb : BlkOk X.N X.env.scope scope own := by
    obtain ⟨TT0, this⟩ := hX.eq
    subst this
    exact blkOk_by hok
  have e1 : X.N = c.N := by obtain ⟨TT0, this⟩ := hX.eq; subst this; rfl
  have e2 : X.env.scope = c.sc := by obtain ⟨TT0, this⟩ := hX.eq; subst this; rfl
  exact ps_setLc hc hn (by rw [e1]; exact hi0) (by rw [e2]; exact ip.loc) (ip.sw X.env e2 (by rw [e2]; exact hkind)) h1 hb (fun s H C cl fp => pg _ (hf s H C cl fp)) (fun s H C cl fp => pt _ (hf s H C cl fp)) (fun s H C cl fp => pe _ (hf s H C cl fp)) (hs _)
theorem ss_setLc {x : Str} {px : Pos} (i : Nat) (hi0 : c.N[i]? = some x) (ip : InPl c (.ListComp elt [⟨tg, iter, ifs, 0⟩] scope pos) x px spos) (hi : SI k c tg iter sr) (hok : blkC c.N c.sc scope own = true) (hkind : c.sc.kind = .function) (hg : SG k (c.blk scope) tg gg T) (hT : ∀ i ∈ T, i ∈ own.map (·.2)) (ht : STs k (c.blk scope) ifs ts) (he : SE k (c.blk scope) elt el)
    (hs : ∀ (env : Env) x, foldedSetIterable iter env x = pure x := by intro _ _; rfl) (hcm : c.calm = true := by rfl) : SS k c (.Assign [.Name x px] (.ListComp elt [⟨tg, iter, ifs, 0⟩] scope pos) spos) (sSet i (xlc (own.map (·.2)) sr gg ts el)) := by
  obtain ⟨t, p, s⟩ := lc_st i hi0 ip hi hok hkind hg hT ht he hs hcm
  exact ⟨fun _ => tAsg t (gName i), p, snd_set s⟩
theorem ss_setLcO {x : Str} {px : Pos} (i : Nat) (hi0 : c.N[i]? = some x) (ip : InPl c (.ListComp elt [⟨tg, iter, ifs, 0⟩] scope pos) x px spos) (hi : SI k c tg iter sr) (hok : blkC c.N c.sc scope own = true) (hkind : c.sc.kind = .function) (hg : SG k (c.blk scope) tg gg T) (hT : ∀ i ∈ T, i ∈ own.map (·.2)) (ht : STs k (c.blk scope) ifs ts) (he : SE k (c.blk scope) elt el)
    (hs : ∀ (env : Env) x, foldedSetIterable iter env x = pure x := by intro _ _; rfl) (hcm : c.calm = true := by rfl) : SS k c (.Assign [.Name x px] (.ListComp elt [⟨tg, iter, ifs, 0⟩] scope pos) spos) (sSetO i (xlc (own.map (·.2)) sr gg ts el)) := by
  obtain ⟨t, p, s⟩ := lc_st i hi0 ip hi hok hkind hg hT ht he hs hcm
  exact ⟨fun _ => tAsg t (gName i), p, snd_setO s⟩
end
def sAsg (tg : Tgt) (f : Ex) : SEx := fun ρ => (stl f ρ).bind fun p => match p.1 with
  | .v d => (tg d p.2).map fun ρ' => (.nx, ρ')
  | _ => none
theorem ss_asg {tg : Expr} {gg : Tgt} {T : List Nat} (hg : SG k c tg gg T) (h : SE k c e f) (hs : ∀ env, swapsWithSole [tg] e pos.line env = pure false := by intro _; rfl) (hw : ∀ env : Env, env.scope = c.sc → swappedStores [tg] e env = pure none := by intro _ _; rfl)
    (h1 : ∀ env, (assignEach [tg] env).map (·.2) = [assign tg env] := by intro _; rfl) : SS k c (.Assign [tg] e pos) (sAsg gg f) := by
  obtain ⟨⟨gt, pg, sg⟩⟩ := hg
  obtain ⟨⟨t, p, s⟩⟩ := h
  refine ⟨fun _ => tAsg t gt, fun X W hX => ?_, ?_⟩
  · have q1 := p X hX.toFits
    have q2 := pg X hX.toFits
    have e2 : X.env.scope = c.sc := by obtain ⟨TT0, this⟩ := hX.eq; subst this; rfl
    exact ps_asg q1 q2 (hs _) (hw _ e2) (h1 _)
  · intro ρ σ H F D W fl ρ' G e q
    unfold sAsg at e
    rw [Option.bind_eq_some_iff] at e
    obtain ⟨⟨x, ρ1⟩, e1, e⟩ := e
    simp only at e
    split at e
    · rename_i d
      rw [Option.map_eq_some_iff] at e
      obtain ⟨ρ2, e2, e⟩ := e
      cases e
      refine s.stl ρ σ H F _ _ _ G e1 fun v H' F' G' E' r => ?_
      exact sg ρ1 σ H' F' _ v d _ G' r e2 fun σ' G2 E2 _ => q σ' H' F' G2 (E'.trans E2)
    · cases e
def sPar (i j : Nat) (fs : AEx) : SEx := fun ρ => (fs ρ).bind fun p => match p.1 with
  | [.v d, .v e] => (setV i d p.2).bind fun ρ1 => (setV j e ρ1).map fun ρ2 => (.nx, ρ2)
  | _ => none
def sPut (i : Nat) (f1 f2 : Ex) : SEx := fun ρ => (stl f2 ρ).bind fun p => match p.2[i]? with
  | some (.o _ (.l _)) => (f1 p.2).bind fun q => match p.1, q.1, q.2[i]? with
    | .v d, .v (.int j), some (.o b (.l ds)) => (ixN ds.length j).map fun n => (.nx, q.2.set i (.o b (.l (ds.set n d))))
    | _, _, _ => none
  | _ => none
def sAug (i : Nat) (gg : D → D → Option XV) (f : Ex) : SEx := fun ρ => match ρ[i]? with
  | some (.v d) => (stl f ρ).bind fun p => (look p.2 p.1).bind fun e => (gg d e).bind fun z => match z with
    | .v r => (setV i r p.2).map fun ρ' => (.nx, ρ')
    | _ => none
  | _ => none
def forGo (tg : Tgt) (body : SEx) : List D → En → Option (Fl × En)
  | [], ρ => some (.nx, ρ)
  | d :: ds, ρ => (tg d ρ).bind fun ρ1 => (body ρ1).bind fun p => match p.1 with
    | .nx => forGo tg body ds p.2
    | .ct => forGo tg body ds p.2
    | .bk => some (.nx, p.2)
    | .rt x => some (.rt x, p.2)
    | .ex n => some (.ex n, p.2)
def sFor (sr : IEx) (tg : Tgt) (body : SEx) : SEx := fun ρ => (sr ρ).bind fun s => (forGo tg body s.1 (lockE s.2.1 s.2.2)).map fun p => (p.1, unlockE s.2.1 s.2.2 p.2)
theorem RR.unlock {K : KK} {lk : Option Nat} {ρ ρ1 : En} {σ σ' : Sg} {H H' F' : Hp} {v : V} {x : XV} (U : ∀ j a, HeldAt (unlockE lk ρ ρ1) σ' j a → HeldAt ρ1 σ' j a) (h : RR K (lockE lk ρ) σ H ρ1 σ' H' F' v x) : RR K ρ σ H (unlockE lk ρ ρ1) σ' H' F' v x := by
  cases x with
  | v d => exact h
  | sl _ => exact h
  | fr c =>
    obtain ⟨a, h1, h2, h3, h4, h5⟩ := h
    refine ⟨a, h1, ?_, h3, h4, fun j hj => h5 j (U j a hj)⟩
    rcases h2 with h2 | ⟨i, c', q1, q2⟩
    · exact .inl h2
    · refine .inr ⟨i, c', ?_, q2⟩
      cases lk with
      | none => exact q1
      | some n =>
        simp only [lockE] at q1
        split at q1
        · rename_i b c'' hn
          rw [set_get (List.getElem?_eq_some_iff.mp hn).1] at q1
          split at q1
          · cases q1
          · exact q1
        · exact q1
theorem ss_for {tg iter : Expr} {body : List Stmt} {sr : IEx} {gg : Tgt} {T : List Nat} {gb : SEx} (hi : SI k c tg iter sr) (hg : SG k c tg gg T) (hb : SSs k c body gb) (hs : ∀ (env : Env) x, foldedSetIterable iter env x = pure x := by intro _ _; rfl) (hcm : c.calm = true := by rfl) : SS k c (.For tg iter body [] pos) (sFor sr gg gb) := by
  obtain ⟨⟨wi, pi, si⟩⟩ := hi
  obtain ⟨⟨gt, pg, sg⟩⟩ := hg
  obtain ⟨⟨tb, pb, sb⟩⟩ := hb
  refine ⟨fun W => tFor wi gt (tb W), fun X W hX => ps_for (hX.po hcm) (hX.calm hcm) (pi X hX.toFits) (pg X hX.toFits) (pb X W hX) (hs _), ?_⟩
  intro ρ σ H F D W fl ρ' G e q
  unfold sFor at e
  rw [Option.bind_eq_some_iff] at e
  obtain ⟨⟨ds, lk, ρ1⟩, e1, e⟩ := e
  rw [Option.map_eq_some_iff] at e
  obtain ⟨⟨fl', ρ2⟩, e2, e⟩ := e
  cases e
  refine si ρ σ H F _ ds lk ρ1 G e1 fun J H1 F1 G1 E1 S => ?_
  obtain ⟨⟨PF, pa, mono, P1, iter⟩, hlen⟩ := S
  have GL := lock_gd (lk := lk) G1
  refine ⟨fun i m σ' H' => m = ds.length - i ∧ i ≤ ds.length ∧ ∃ ρc Fc, Gd c.g.K ρc σ' H' Fc ∧ Ext (lockE lk ρ1) σ H1 F1 ρc σ' H' Fc ∧ forGo gg gb (ds.drop i) ρc = some (fl', ρ2), ⟨_, rfl, Nat.zero_le _, lockE lk ρ1, F1, GL, Ext.refl .., e2⟩, ?_⟩
  rintro i m σ' H' ⟨rfl, hil, ρc, Fc, Gc, Ec, ec⟩
  have Pc : Pst PF pa lk ds ρc σ' Fc := P1.step mono Ec
  by_cases hlt : i < ds.length
  · obtain ⟨go, yl⟩ := (iter ρc _ H' Fc Gc Pc i).1 hlt
    have ed : ds.drop i = ds[i] :: ds.drop (i + 1) := List.drop_eq_getElem_cons hlt
    rw [ed] at ec
    unfold forGo at ec
    rw [Option.bind_eq_some_iff] at ec
    obtain ⟨ρ3, f1, ec⟩ := ec
    rw [Option.bind_eq_some_iff] at ec
    obtain ⟨⟨fb, ρ4⟩, f2, ec⟩ := ec
    refine .inr ⟨go, fun σ' H' => i + 1 ≤ ds.length ∧ ∃ ρc Fc, Gd c.g.K ρc σ' H' Fc ∧ Ext (lockE lk ρ1) σ H1 F1 ρc σ' H' Fc ∧ forGo gg gb (ds.drop (i + 1)) ρc = some (fl', ρ2), fun σ' H2 h2 => ⟨_, by omega, rfl, h2⟩, fun xv H2 y => ?_⟩
    obtain ⟨F2, d, n2, hd, hq⟩ := yl xv H2 y
    rw [List.getElem?_eq_getElem hlt] at hd; cases hd
    have G2 := n2.gd Gc
    have E2 := Ec.trans (n2.ext Gc)
    refine sg ρc _ H2 F2 _ xv ds[i] ρ3 G2 hq f1 fun σ2 G3 E3 _ => ?_
    have E23 := E2.trans E3
    refine sb ρ3 σ2 H2 F2 _ W fb ρ4 G3 f2 ?_
    cases fb with
    | nx => exact fun σ4 H4 F4 G4 E4 => ⟨hlt, ρ4, F4, G4, E23.trans E4, ec⟩
    | ct => exact fun σ4 H4 F4 G4 E4 => ⟨hlt, ρ4, F4, G4, E23.trans E4, ec⟩
    | bk =>
      cases ec
      refine fun σ4 H4 F4 G4 E4 => ?_
      obtain ⟨U1, U2, U3⟩ := unlock_ok G4 (E23.trans E4)
      exact q σ4 H4 F4 U1 (E1.trans U2)
    | rt x =>
      cases ec
      refine fun v σ4 H4 F4 G4 E4 r => ?_
      obtain ⟨U1, U2, U3⟩ := unlock_ok G4 (E23.trans E4)
      exact q v σ4 H4 F4 U1 (E1.trans U2) (((r.later G3 E23).unlock U3).later G1 E1)
    | ex n =>
      cases ec
      refine fun Cl σ4 H4 F4 hm G4 E4 => ?_
      obtain ⟨U1, U2, U3⟩ := unlock_ok G4 (E23.trans E4)
      exact q Cl σ4 H4 F4 hm U1 (E1.trans U2)
  · have hi : i = ds.length := by omega
    refine .inl ⟨(iter ρc _ H' Fc Gc Pc i).2 (by omega), ?_⟩
    rw [hi, List.drop_length] at ec
    unfold forGo at ec
    cases ec
    obtain ⟨U1, U2, U3⟩ := unlock_ok Gc Ec
    exact q σ' H' Fc U1 (E1.trans U2)
end
structure FnD where
  par : Nat
  slots : Nat
  body : Calls → SEx
def okArg : Sl → Bool
  | .v _ => true
  | .o true _ => true
  | .k _ _ => true
  | .r _ => true
  | _ => false
def outsOf : En → En → En
  | [], _ => []
  | .o true _ :: as, s :: ρ => s :: outsOf as ρ
  | a :: as, _ :: ρ => a :: outsOf as ρ
  | a :: as, [] => a :: outsOf as []
def runFn (d : FnD) (C : Calls) (args : En) : Option CR :=
  if args.length = d.par ∧ args.all okArg = true then (d.body C (args ++ List.replicate (d.slots - d.par) .un)).bind fun p => match p.1 with
    | .nx => some (.ok (.v .none) (outsOf args p.2))
    | .rt x => some (.ok x (outsOf args p.2))
    | .ex n => some (.ex n)
    | _ => none
  else none
abbrev Tab := List (Str × FnD)
def callF (T : Tab) : Nat → Calls
  | 0 => fun _ _ => none
  | k + 1 => fun x args => match T.lookup x with
    | some d => runFn d (callF T k) args
    | none => none
theorem outsOf_get : ∀ (args ρ : En) (i : Nat) (s : Sl), args[i]? = some s → (outsOf args ρ)[i]? = match s with | .o true c => some ((ρ[i]?).getD (.o true c)) | s => some s
  | [], ρ, i, s, h => by simp at h
  | a :: as, [], 0, s, h => by
    simp at h; subst h
    cases a with
    | o b c => cases b <;> simp [outsOf]
    | _ => simp [outsOf]
  | a :: as, [], i + 1, s, h => by
    have ih := outsOf_get as [] i s (by simpa using h)
    cases a with
    | o b c => cases b <;> simpa [outsOf] using ih
    | un => simpa [outsOf] using ih
    | v _ => simpa [outsOf] using ih
    | k _ _ => simpa [outsOf] using ih
    | r _ => simpa [outsOf] using ih
  | a :: as, r :: ρ, 0, s, h => by
    simp at h; subst h
    cases a with
    | o b c => cases b <;> simp [outsOf]
    | _ => simp [outsOf]
  | a :: as, r :: ρ, i + 1, s, h => by
    have ih := outsOf_get as ρ i s (by simpa using h)
    cases a with
    | o b c => cases b <;> simpa [outsOf] using ih
    | un => simpa [outsOf] using ih
    | v _ => simpa [outsOf] using ih
    | k _ _ => simpa [outsOf] using ih
    | r _ => simpa [outsOf] using ih
theorem outsOf_len : ∀ (args ρ : En), (outsOf args ρ).length = args.length
  | [], ρ => by cases ρ <;> rfl
  | a :: as, [] => by
    have ih := outsOf_len as []
    cases a with
    | o b c => cases b <;> simp [outsOf, ih]
    | _ => simp [outsOf, ih]
  | a :: as, r :: ρ => by
    have ih := outsOf_len as ρ
    cases a with
    | o b c => cases b <;> simp [outsOf, ih]
    | _ => simp [outsOf, ih]
section
variable {K : KK} {args ρ' : En} {vs : List V} {H F H' F' : Hp} {σ' : Sg} {n m : Nat}
theorem app_get {α : Type} {l : List α} {x : α} {n i : Nat} {y : α} (h : (l ++ List.replicate n x)[i]? = some y) : l[i]? = some y ∨ (l.length ≤ i ∧ y = x) := by
  by_cases hi : i < l.length
  · rw [List.getElem?_append_left hi] at h; exact .inl h
  · rw [List.getElem?_append_right (by omega), List.getElem?_replicate] at h
    split at h
    · cases h; exact .inr ⟨by omega, rfl⟩
    · cases h
theorem app_gd (G : Gd K args (vs.map some) H F) (n : Nat) : Gd K (args ++ List.replicate n .un) (vs.map some ++ List.replicate n none) H F := by
  have get : ∀ (j : Nat) (s : Sl), (args ++ List.replicate n .un)[j]? = some s → s ≠ .un → args[j]? = some s ∧ (vs.map some ++ List.replicate n none)[j]? = (vs.map some)[j]? := fun j s h hs => by
    rcases app_get h with q | ⟨_, q⟩
    · refine ⟨q, List.getElem?_append_left ?_⟩
      rw [G.len]; exact (List.getElem?_eq_some_iff.mp q).1
    · exact absurd q hs
  have held : ∀ j a, HeldAt (args ++ List.replicate n .un) (vs.map some ++ List.replicate n none) j a → HeldAt args (vs.map some) j a := fun j a ⟨⟨b, c, x⟩, sx⟩ => by
    rcases x with x | x
    · obtain ⟨h1, h2⟩ := get j _ x (fun z => by cases z)
      rw [h2] at sx; exact ⟨⟨b, c, .inl h1⟩, sx⟩
    · obtain ⟨h1, h2⟩ := get j _ x (fun z => by cases z)
      rw [h2] at sx; exact ⟨⟨b, c, .inr h1⟩, sx⟩
  refine ⟨by simp only [List.length_append, List.length_replicate]; rw [G.len], G.sub, fun j d e => ?_, fun j ns e => ?_, fun j b c e => ?_, fun j j' a x y => G.inj j j' a (held j a x) (held j' a y), G.tab⟩
  · obtain ⟨h1, h2⟩ := get j _ e (fun z => by cases z)
    rw [h2]; exact G.val j d h1
  · obtain ⟨h1, h2⟩ := get j _ e (fun z => by cases z)
    rw [h2]; exact G.scr j ns h1
  · rcases e with e | e
    · obtain ⟨h1, h2⟩ := get j _ e (fun z => by cases z)
      rw [h2]; exact G.opn j b c (.inl h1)
    · obtain ⟨h1, h2⟩ := get j _ e (fun z => by cases z)
      rw [h2]; exact G.opn j b c (.inr h1)
theorem outs_ok (hok : args.all okArg = true) (G : Gd K args (vs.map some) H F) (G' : Gd K ρ' σ' H' F') (E : Ext (args ++ List.replicate n .un) (vs.map some ++ List.replicate n none) H F ρ' σ' H' F') :
    Gd K (outsOf args ρ') (vs.map some) H' F' ∧ Ext args (vs.map some) H F (outsOf args ρ') (vs.map some) H' F' ∧ (∀ j a, HeldAt (outsOf args ρ') (vs.map some) j a → HeldAt args (vs.map some) j a) := by
  have al : ∀ (j : Nat) (s : Sl), args[j]? = some s → (args ++ List.replicate n .un)[j]? = some s ∧ (vs.map some ++ List.replicate n none)[j]? = (vs.map some)[j]? := fun j s h => by
    have hj := (List.getElem?_eq_some_iff.mp h).1
    exact ⟨by rw [List.getElem?_append_left hj]; exact h, List.getElem?_append_left (by rw [G.len]; exact hj)⟩
  have ok : ∀ (j : Nat) (s : Sl), args[j]? = some s → okArg s = true := fun j s h => List.all_eq_true.mp hok s (List.mem_of_getElem? h)
  have arg : ∀ (j : Nat) (s : Sl), (outsOf args ρ')[j]? = some s → ∃ s0, args[j]? = some s0 := fun j s h => by
    have hj := (List.getElem?_eq_some_iff.mp h).1
    rw [outsOf_len] at hj
    exact ⟨_, List.getElem?_eq_getElem hj⟩
  -- a lent container
  have bor : ∀ (j : Nat) (c : Ct), args[j]? = some (.o true c) → ∃ c', (outsOf args ρ')[j]? = some (.o true c') ∧ ρ'[j]? = some (.o true c') ∧ σ'[j]? = (vs.map some)[j]? := fun j c h => by
    obtain ⟨h1, h2⟩ := al j _ h
    obtain ⟨⟨c', q1⟩, q2⟩ := E.bor j c h1
    refine ⟨c', ?_, q1, q2.trans h2⟩
    rw [outsOf_get args ρ' j _ h]; show some ((ρ'[j]?).getD _) = _; rw [q1]; rfl
  have opn0 : ∀ a, OpenAt (args ++ List.replicate n .un) (vs.map some ++ List.replicate n none) a → OpenAt args (vs.map some) a := fun a ⟨j, b, c, x, sx⟩ => by
    rcases app_get x with q | ⟨_, q⟩
    · rw [(al j _ q).2] at sx; exact ⟨j, b, c, q, sx⟩
    · cases q
  -- what the list of outs holds
  have look : ∀ (j : Nat) (s : Sl), (outsOf args ρ')[j]? = some s → (∃ c, args[j]? = some (.o true c)) ∨ args[j]? = some s := fun j s h => by
    obtain ⟨s0, h0⟩ := arg j s h
    rw [outsOf_get args ρ' j _ h0] at h
    cases s0 with
    | o b c =>
      cases b with
      | true => exact .inl ⟨c, h0⟩
      | false => have := ok j _ h0; cases this
    | un => cases h; exact .inr h0
    | v _ => cases h; exact .inr h0
    | k _ _ => cases h; exact .inr h0
    | r _ => cases h; exact .inr h0
  have held : ∀ j a, HeldAt (outsOf args ρ') (vs.map some) j a → HeldAt args (vs.map some) j a := fun j a ⟨⟨b, c, x⟩, sx⟩ => by
    rcases x with x | x
    · rcases look j _ x with ⟨c0, q⟩ | q
      · exact ⟨⟨true, c0, .inl q⟩, sx⟩
      · exact ⟨⟨b, c, .inl q⟩, sx⟩
    · rcases look j _ x with ⟨c0, q⟩ | q
      · exact ⟨⟨true, c0, .inl q⟩, sx⟩
      · exact ⟨⟨b, c, .inr q⟩, sx⟩
  have same : ∀ (j : Nat) (s : Sl), args[j]? = some s → (∀ c, s ≠ .o true c) → (outsOf args ρ')[j]? = some s := fun j s h hs => by
    rw [outsOf_get args ρ' j _ h]
    cases s with
    | o b c =>
      cases b with
      | true => exact absurd rfl (hs c)
      | false => rfl
    | _ => rfl
  refine ⟨⟨by rw [outsOf_len]; exact G.len, G'.sub, fun j d e => ?_, fun j ns e => ?_, fun j b c e => ?_, fun j j' a x y => G.inj j j' a (held j a x) (held j' a y), G'.tab⟩,
    ⟨E.fz, fun a o e nt h => E.keep a o e nt fun z => h (opn0 a z), E.dom, fun a ⟨j, b, c, x, sx⟩ => ?_, fun j c e => ?_, fun j b c e => ⟨same j _ e (fun c z => by cases z), rfl⟩, fun j b c e => ?_, fun j c e => ?_⟩, held⟩
  · rcases look j _ e with ⟨c0, q⟩ | q
    · obtain ⟨c', h1, _⟩ := bor j c0 q; rw [h1] at e; cases e
    · obtain ⟨v, h1, h2⟩ := G.val j d q; exact ⟨v, h1, h2.sub E.fz⟩
  · rcases look j _ e with ⟨c0, q⟩ | q
    · obtain ⟨c', h1, _⟩ := bor j c0 q; rw [h1] at e; cases e
    · obtain ⟨v, h1, h2, h3⟩ := G.scr j ns q; exact ⟨v, h1, sqL_sub E.fz h2, h3⟩
  · rcases e with e | e
    · rcases look j _ e with ⟨c0, q⟩ | q
      · obtain ⟨c', h1, h2, h3⟩ := bor j c0 q
        rw [h1] at e; cases e
        obtain ⟨a, p1, p2⟩ := G'.opn j _ _ (.inl h2)
        rw [h3] at p1; exact ⟨a, p1, p2⟩
      · cases b with
        | true =>
          obtain ⟨c', h1, h2, h3⟩ := bor j c q
          rw [h1] at e; cases e
          obtain ⟨a, p1, p2⟩ := G'.opn j _ _ (.inl h2)
          rw [h3] at p1; exact ⟨a, p1, p2⟩
        | false => have := ok j _ q; cases this
    · rcases look j _ e with ⟨c0, q⟩ | q
      · obtain ⟨c', h1, _⟩ := bor j c0 q; rw [h1] at e; cases e
      · obtain ⟨h1, h2⟩ := al j _ q
        obtain ⟨q1, q2⟩ := E.lck j b c h1
        obtain ⟨a, p1, p2⟩ := G'.opn j _ _ (.inr q1)
        rw [q2, h2] at p1; exact ⟨a, p1, p2⟩
  · rcases look j _ x with ⟨c0, q⟩ | q
    · exact .inl ⟨j, true, c0, q, sx⟩
    · exact .inl ⟨j, b, c, q, sx⟩
  · obtain ⟨c', h1, _⟩ := bor j c e; exact ⟨⟨c', h1⟩, rfl⟩
  · rcases look j _ e with ⟨c0, q⟩ | q
    · obtain ⟨c', h1, _⟩ := bor j c0 q; rw [h1] at e; cases e
    · exact q
  · rcases look j _ e with ⟨c0, q⟩ | q
    · exact ⟨c0, q⟩
    · exact ⟨c, q⟩
theorem rr_out (hok : args.all okArg = true) (G : Gd K args (vs.map some) H F) (hh : ∀ j a, HeldAt (outsOf args ρ') (vs.map some) j a → HeldAt args (vs.map some) j a) {v : V} {x : XV}
    (r : RR K (args ++ List.replicate n .un) (vs.map some ++ List.replicate n none) H ρ' σ' H' F' v x) : XR K H (outsOf args ρ') (vs.map some) H' F' v x := by
  cases x with
  | v d => exact r
  | sl i => exact r.elim
  | fr c =>
    obtain ⟨a, h1, h2, h3, h4, h5⟩ := r
    have hn : H a = none := by
      rcases h2 with h2 | ⟨i, c', q1, q2⟩
      · exact h2
      · rcases app_get q1 with q | ⟨_, q⟩
        · have := List.all_eq_true.mp hok _ (List.mem_of_getElem? q); cases this
        · cases q
    exact ⟨a, h1, hn, h3, h4, fun i hi => G.fresh hn i (hh i a hi)⟩
end
def FunC (K : PySem.W.Frag) (x qual : Str) (st : Stmt) (f : Addr) (fd : FuncData) (cdv : Value) : Prop :=
  ∃ (oc : Value) (od : Option Addr) (kV doc pm : Value) (an : Option Addr) (ct : Value) (osl : Array (Option Value)),
    fd = PySem.W.fnOf x qual (defArgs st) (defBody st) (defScope st) .none kV doc pm an cdv ct ∧ K.lookup f = some ⟨oc, od, .func fd, osl⟩ ∧ PySem.W.codeIn K cdv qual = true
theorem fn_okC {g : Gb} {N ps : List Str} {x qual : Str} {st : Stmt} {f : Addr} {fd : FuncData} {T : Tab} {d : FnD} {k : Nat} {cdv : Value} {lam : Option (Addr × Str)}
    (F : FunC g.K x qual st f fd cdv) (hlm : ∀ P q, lam = some (P, q) → ∃ c, cdv = .ref c ∧ LamX.TabB g.base g.mg c P ∧ qual ++ ".<locals>." ++ "<lambda>" = q) (S : FnScope N ps (defScope st)) (hT : T.lookup x = some d) (hN : N.length = d.slots) (hp : ps.length = d.par)
    (hb : SSs k ⟨g, N, defScope st, fun _ => true, true, lam⟩ (defBody st) (d.body (callF T k))) :
    FnOk g.prog g.w g.K g.mg g.base (L2.CX g.prog g.w) (k + 1) f fd ps (spC g (callF T (k + 1)) x) := by
  obtain ⟨⟨t, ht, hs⟩⟩ := hb
  have run : ∀ {args : En} {r : CR}, callF T (k + 1) x args = some r → args.length = d.par ∧ args.all okArg = true ∧ (d.body (callF T k) (args ++ List.replicate (d.slots - d.par) .un)).bind (fun p => match p.1 with
    | .nx => some (.ok (.v .none) (outsOf args p.2))
    | .rt x => some (.ok x (outsOf args p.2))
    | .ex n => some (.ex n)
    | _ => none) = some r := fun {args r} e => by
    have e : (match T.lookup x with | some d => runFn d (callF T k) args | none => none) = some r := e
    rw [hT] at e
    have e : runFn d (callF T k) args = some r := e
    unfold runFn at e
    split at e
    · rename_i h; exact ⟨h.1, h.2, e⟩
    · cases e
  obtain ⟨oc, od, kV, doc, pm, an, ct, osl, rfl, lk, hcd⟩ := F
  refine ⟨fun vs H Q E h => ?_, fun A outer s H aa us vs Q E hr0 e0 hbi rv h => LamX.run_ofS lk hcd S hr0 e0 hbi rv (by obtain ⟨F, args, r, G, e, _⟩ := h; have := (run e).1; have l := G.len; simp at l; omega) fun hr => ?_⟩
  · obtain ⟨F, args, r, G, e, _⟩ := h
    have := (run e).1
    have l := G.len
    simp at l
    omega
  · refine ⟨t (fun cls d _ H => E cls d H), ht _ _ ⟨⟨⟨(g.T, lam), rfl⟩, ⟨hr.dp, hr.un⟩, fun _ => hr.hd, S.nd, fun P q e => hlm P q e, fun P q e => ⟨by have := hr0.dp; show A.depth + 1 + 3 * k + 7 < _; omega, by have := hr0.un; show A.units + 3 + 16 * k + 212 < _; omega⟩⟩, fun _ => passes_of rfl, takes_of rfl rfl rfl rfl, rfl, rfl⟩, ?_⟩
    obtain ⟨F, args, r, G, e, q⟩ := h
    obtain ⟨hl, hok, e⟩ := run e
    rw [Option.bind_eq_some_iff] at e
    obtain ⟨⟨fl, ρ'⟩, e1, e⟩ := e
    have lv : vs.length = args.length := by have := G.len; rw [List.length_map] at this; exact this
    have sE : L2.start N vs = vs.map some ++ List.replicate (d.slots - d.par) none := by
      unfold L2.start; rw [hN, lv, hl]
    rw [sE]
    have G0 := app_gd G (d.slots - d.par)
    refine hs _ _ _ _ _ _ _ _ G0 e1 ?_
    cases fl with
    | nx =>
      cases e
      intro σ' H' F' G' E'
      obtain ⟨o1, o2, o3⟩ := outs_ok hok G G' E'
      exact q _ _ _ o1 o2 Dq.non
    | bk => cases e
    | ct => cases e
    | rt x =>
      cases e
      intro v σ' H' F' G' E' r
      obtain ⟨o1, o2, o3⟩ := outs_ok hok G G' E'
      exact q _ _ _ o1 o2 (rr_out hok G o3 r)
    | ex n =>
      cases e
      intro Cl σ' H' F' m G' E'
      obtain ⟨o1, o2, o3⟩ := outs_ok hok G G' E'
      obtain ⟨Cl2, q1, q2⟩ := q
      rw [m] at q1; cases q1
      exact q2 _ _ _ o1 o2
theorem fn_ok {g : Gb} {N ps : List Str} {x qual : Str} {st : Stmt} {f : Addr} {fd : FuncData} {T : Tab} {d : FnD} {k : Nat}
    (F : Fun g.K x qual st f fd) (S : FnScope N ps (defScope st)) (hT : T.lookup x = some d) (hN : N.length = d.slots) (hp : ps.length = d.par)
    (hb : SSs k ⟨g, N, defScope st, fun _ => true, true, none⟩ (defBody st) (d.body (callF T k))) :
    FnOk g.prog g.w g.K g.mg g.base (L2.CX g.prog g.w) (k + 1) f fd ps (spC g (callF T (k + 1)) x) := by
  obtain ⟨oc, od, kV, doc, pm, an, cdv, ct, osl, e, lk, hcd⟩ := F.ex
  exact fn_okC ⟨oc, od, kV, doc, pm, an, ct, osl, e, lk, hcd⟩ (fun _ _ z => (by cases z)) S hT hN hp hb
section
variable {prog : Program} {w : World} {A : Around} {E : Value → Shared → Prop} {s : Shared}
theorem tup_lt {Q : Value → Shared → Prop} {l b : Addr} {xs ys : Array Value} {e r : Nat → Bool} (hx : s.heap.IsTuple l xs) (hy : s.heap.IsTuple b ys)
    (he : ∀ j (h1 : j < xs.size) (h2 : j < ys.size), SeqAt.EqAt A.in1 s xs[j] ys[j] (e j)) (hr : ∀ j (h1 : j < xs.size) (h2 : j < ys.size), e j = false → SeqAt.RcLt A.in1 s xs[j] ys[j] (r j))
    (h : Q (.bool (SeqAt.firstLt e r (decide (xs.size < ys.size)) (List.range (min xs.size ys.size)))) s) : wpAny (model prog w) A (call (.builtin "tuple.__lt__") [.ref l, .ref b]) Q E s := by
  obtain ⟨⟨c1, d1, t1, z1⟩, ho1, hc1, n1, hd1⟩ := id hx
  obtain ⟨⟨c2, d2, t2, z2⟩, ho2, hc2, n2, hd2⟩ := id hy
  simp only at hc1 hd1 hc2 hd2
  subst hc1 hd1 hc2 hd2
  exact call_meets PySem.F.slot_tuple_lt ⟨_, ho1, rfl⟩ PySem.F.entry_tuple_lt (PySem.F.args_tuple_lt_2 _ _) (SeqAt.tuple_ltAt l b xs ys n1 n2 d1 d2 z1 z2 e r) ⟨ho1, ho2, he, hr, h⟩
theorem one_tups {xs ys : List D} {a b : Value} {as bs : List Addr} {Q : Bool → Shared → Prop} (ra : Reads s.heap a (.tuple xs) as) (rb : Reads s.heap b (.tuple ys) bs) (hal : PySem.W.alikeAll xs ys = true)
    (hu : A.units + min (PyData.tuple xs).depth (PyData.tuple ys).depth < cLine) (hq : Q (PySem.W.dataLt (.tuple xs) (.tuple ys)) s) : wpAny (model prog w) A (oneLt' true a b) Q E s := by
  cases ra with
  | @tuple l o vs n _ _ h1 h2 h3 h4 =>
    cases rb with
    | @tuple l' o' vs' n' _ _ k1 k2 k3 k4 =>
      have n1 : vs.size = xs.length := by simpa using SeqAt.ReadsAll.length _ _ _ h4
      have n2 : vs'.size = ys.length := by simpa using SeqAt.ReadsAll.length _ _ _ k4
      rw [PySem.W.dataLt_tuple, ← PySem.W.firstLt_toks xs ys hal, ← n1, ← n2] at hq
      rw [oneLt'_eq]
      simp only [if_true]
      refine wpAny_bind (wpAny_cRoomFor (SeqAt.room_here hu) ?_)
      refine wpAny_bind (wpAny_callSpecialIfBound?_slot (T := "tuple") ⟨_, h1, h2⟩ PySem.F.slot_tuple_lt (tup_lt (e := SeqAt.pairEq xs ys) (r := fun j => PySem.W.dataLt (xs.getD j .none) (ys.getD j .none)) ⟨_, h1, h2, _, h3⟩ ⟨_, k1, k2, _, k3⟩ (fun j j1 j2 => ?_) (fun j j1 j2 hj => ?_) ?_))
      · have := PySem.W.eqAt_alikeAll xs ys A.in1 s vs.toList vs'.toList _ _ h4 k4 hal (SeqAt.room_in hu) j (by simpa using j1) (by simpa using j2)
        simpa using this
      · have := PySem.W.rcLt_alikeAll xs ys A.in1 s vs.toList vs'.toList _ _ h4 k4 hal (SeqAt.room_in hu) j (by simpa using j1) (by simpa using j2) hj
        simpa using this
      · exact wpAny_truthy_bool hq
theorem firsts_any {M : Model} : ∀ {vs : List Value} {ds : List D}, PySem.W.EachIs (fun v d => ∃ as, Reads s.heap v d as) vs ds → (∀ d ∈ ds, ∃ xs, d = .tuple xs) →
    ∃ os : List (Option Value), os.map (·.isSome) = ds.map (fun d => match d with | .tuple (_ :: _) => true | _ => false) ∧ ∀ {E : Value → Shared → Prop} {Q : List (Option Value) → Shared → Prop}, Q os s → wpAny M A (vs.mapM firstOfTuple') Q E s
  | _, _, .nil, _ => ⟨[], rfl, fun {E Q} h => by rw [List.mapM_nil]; exact wpAny_pure h⟩
  | _, _, .cons (b := d) (a := v) ⟨as, r⟩ t, ht => by
    obtain ⟨os, h1, h2⟩ := firsts_any (M := M) t fun d hd => ht d (List.mem_cons_of_mem _ hd)
    obtain ⟨xs, rfl⟩ := ht d (List.mem_cons_self ..)
    cases r with
    | @tuple a o its n _ _ ho hc hd hr =>
      refine ⟨its[0]? :: os, ?_, fun {E Q} h => ?_⟩
      · rw [List.map_cons, List.map_cons, h1]
        congr 1
        cases xs with
        | nil =>
          have : its.toList.length = 0 := SeqAt.ReadsAll.length _ _ _ hr
          have e : its[0]? = none := by rw [Array.getElem?_eq_none]; simpa using this
          rw [e]; rfl
        | cons x r =>
          have : its.toList.length = (x :: r).length := SeqAt.ReadsAll.length _ _ _ hr
          have hz : 0 < its.size := by simp at this; omega
          rw [Array.getElem?_eq_getElem hz]; rfl
      · rw [List.mapM_cons]
        refine wpAny_bind ?_
        rw [PySem.W.kas_first_eq]
        refine wpAny_bind (PySem.W.Looks.here (show PySem.W.Looks M s.heap (typeOf (.ref a)) o.cls from (PySem.W.Looks.ld ho).andThen .now) ?_)
        rw [hc, if_neg (by first | decide | simp)]
        refine wpAny_bind (listItems_at ho hd (wpAny_pure ?_))
        exact wpAny_bind (h2 (Q := fun bs s' => wpAny M A (pure (its[0]? :: bs)) Q E s') (wpAny_pure h))
def neT : D → Bool
  | .tuple (_ :: _) => true
  | _ => false
theorem kind_mixed {M : Model} {vs : List Value} {ds : List D} {Q : SortKind → Shared → Prop} (e : PySem.W.EachIs (fun v d => ∃ as, Reads s.heap v d as) vs ds) (ht : ∀ d ∈ ds, ∃ xs, d = .tuple xs) (h2 : 2 ≤ vs.length) (hm : ds.all neT = false)
    (h : if (ds.head?.elim false neT) = true then Q general' s else Q oneType' s) : wpAny M A (keyKind' vs.toArray) Q E s := by
  obtain ⟨os, h1, hgo⟩ := firsts_any (M := M) e ht
  have hn : (fun d : D => match d with | .tuple (_ :: _) => true | _ => false) = neT := by
    funext d
    cases d with
    | tuple xs => cases xs <;> rfl
    | _ => rfl
  rw [hn] at h1
  rw [keyKind'_eq, List.mapM_toArray, map_eq_pure_bind]
  refine wpAny_bind (wpAny_bind (hgo (wpAny_pure ?_)))
  have hall : os.all (fun x => x.isSome) = ds.all neT := by
    have q1 : os.all (fun x => x.isSome) = (os.map fun x => x.isSome).all id := by rw [List.all_map]; rfl
    have q2 : ds.all neT = (ds.map neT).all id := by rw [List.all_map]; rfl
    rw [q1, q2, h1]
  have ha : ¬ (os.toArray.all fun x => x.isSome) = true := by
    rw [List.all_toArray, hall, hm]; exact Bool.false_ne_true
  rw [if_neg ha]
  have hlen := e.length
  match vs, ds, os, h1, e, h2, hlen with
  | v1 :: v2 :: vr, d1 :: dr, o1 :: or, h1, e, h2, _ =>
    rw [List.map_cons, List.map_cons] at h1
    have ho : o1.isSome = neT d1 := (List.cons.inj h1).1
    have hh : ((o1 :: or).toArray[0]?.bind id).isSome = neT d1 := by
      rw [← ho]; simp
    have hd : (d1 :: dr).head?.elim false neT = neT d1 := rfl
    rw [hd] at h
    cases hc : neT d1 with
    | true =>
      rw [hc] at h hh
      rw [if_pos hh]
      exact wpAny_pure h
    | false =>
      rw [hc] at h hh
      rw [if_neg (by rw [hh]; exact Bool.false_ne_true)]
      rw [oneTypeOnly'_eq, List.mapM_toArray, map_eq_pure_bind]
      have hT : ∀ v ∈ v1 :: v2 :: vr, PySem.W.Looks M s.heap (typeOf v) (.type "tuple") := fun v hv => by
        obtain ⟨d, hd, as, r⟩ := e.left v hv
        obtain ⟨xs, rfl⟩ := ht d hd
        exact PySem.W.looks_reads r
      refine wpAny_bind (wpAny_bind (wpAny_bind (PySem.W.kas_mapM (r := Value.type "tuple") _ (fun v hv Q' hq => (hT v hv).here hq) (wpAny_pure ?_))))
      have hq : ((List.map (fun _ => Value.type "tuple") (v1 :: v2 :: vr)).toArray.all fun x => x == Value.type "tuple") = true := by
        simp only [List.all_toArray, List.all_map, List.all_eq_true]
        intro _ _
        rfl
      have h0 : (List.map (fun _ => Value.type "tuple") (v1 :: v2 :: vr)).toArray[0]? = some (Value.type "tuple") := by simp
      rw [h0]
      simp only [hq, if_true]
      first
        | exact wpAny_pure (wpAny_pure h)
        | exact wpAny_pure h
        | exact wpAny_pure (wpAny_pure (wpAny_pure h))
  | v1 :: v2 :: vr, d1 :: dr, [], h1, e, h2, _ => simp at h1
  | _ :: _, [], _, _, e, _, _ => cases e
  | [_], _, _, _, _, h2, _ => simp at h2
  | [], _, _, _, _, h2, _ => simp at h2
theorem sortsAt_tups {vs : List Value} {ds : List D} (e : PySem.W.EachIs (fun v d => ∃ as, Reads s.heap v d as) vs ds) (hal : PySem.W.AllAlike ds) (ht : ∀ d ∈ ds, ∃ xs, d = .tuple xs) (hu : ∀ d, d ∈ ds → A.units + d.depth < cLine) : PySem.W.SortsAt prog w A s (PySem.W.dataKind s.heap ds) vs := by
  by_cases hm : ds.all neT = true
  · refine PySem.W.SortsAt.data e hal (.inl fun d hd => ?_) hu
    have := List.all_eq_true.mp hm d hd
    cases d with
    | tuple xs => cases xs with
      | nil => cases this
      | cons x r => exact ⟨x, r, rfl⟩
    | _ => cases this
  · have hm' : ds.all neT = false := by simpa using hm
    have room : ∀ {d d' : D}, d ∈ ds → A.units + min d.depth d'.depth < cLine := fun {d d'} hd => Nat.lt_of_le_of_lt (Nat.add_le_add_left (Nat.min_le_left _ _) _) (hu d hd)
    refine ⟨fun v hv => ?_, if (ds.head?.elim false neT) = true then general' else oneType', ?_, fun h2 E Q hq => kind_mixed e ht h2 hm' ?_⟩
    · obtain ⟨d, hd, as, r⟩ := e.left v hv
      exact ⟨_, PySem.W.dataKind_some hal hd r⟩
    · intro E x y a b Q ha hb hq
      obtain ⟨d, as, hd, ra, rfl⟩ := PySem.W.dataKind_inv ha
      obtain ⟨d', as', hd', rb, rfl⟩ := PySem.W.dataKind_inv hb
      have hdd := hal d hd d' hd'
      obtain ⟨xs, rfl⟩ := ht d hd
      obtain ⟨ys, rfl⟩ := ht d' hd'
      split
      · show wpAny _ _ (oneLt' false x y) _ _ _
        exact PySem.W.oneLt_alike (f := false) (fun z => by cases z) ra rb hdd (by intro z; cases z) (room hd) hq
      · rw [keyLt'_oneType]
        exact one_tups ra rb (by simpa [PySem.W.alike] using hdd) (room hd) hq
    · split
      · rename_i h; rw [if_pos h] at hq; exact hq
      · rename_i h; rw [if_neg h] at hq; exact hq
end
def Sortie (ds : List D) : Prop := (∀ d ∈ ds, ∃ xs, d = .tuple xs) ∨ PySem.W.Sortable ds
theorem sortsAt_ie {prog : Program} {w : World} {A : Around} {s : Shared} {vs : List Value} {ds : List D} (e : PySem.W.EachIs (fun v d => ∃ as, Reads s.heap v d as) vs ds) (hal : PySem.W.AllAlike ds) (hk : Sortie ds) (hu : ∀ d, d ∈ ds → A.units + d.depth < cLine) : PySem.W.SortsAt prog w A s (PySem.W.dataKind s.heap ds) vs :=
  hk.elim (fun h => sortsAt_tups e hal h hu) (fun h => PySem.W.SortsAt.data e hal h hu)
theorem pairs_each {h : Heap} : ∀ {vs : List V} {us : List Value} {ds : List D} {as : List Addr}, Vals vs us → ReadsAll h us ds as → PySem.W.EachIs (fun u (p : V × D) => RelV p.1 u) us (vs.zip ds) ∧ PySem.W.EachIs (fun u (p : V × D) => ∃ as, Reads h u p.2 as) us (vs.zip ds)
  | [], [], [], _, .nil, _ => ⟨.nil, .nil⟩
  | v :: vs, u :: us, [], _, .cons _ _, r => by cases r
  | v :: vs, u :: us, d :: ds, _, .cons r1 r2, r => by
    cases r with
    | cons h1 h2 =>
      obtain ⟨q1, q2⟩ := pairs_each r2 h2
      exact ⟨.cons r1 q1, .cons ⟨_, h1⟩ q2⟩
  | [], [], d :: ds, _, .nil, r => by cases r
theorem vals_each : ∀ {us : List Value} {ps : List (V × D)}, PySem.W.EachIs (fun u (p : V × D) => RelV p.1 u) us ps → Vals (ps.map (·.1)) us
  | _, _, .nil => .nil
  | _, _, .cons h t => .cons h (vals_each t)
theorem zip_snd {α β : Type} : ∀ {as : List α} {bs : List β}, as.length = bs.length → (as.zip bs).map (·.2) = bs
  | [], [], _ => rfl
  | a :: as, b :: bs, h => by simp only [List.zip_cons_cons, List.map_cons]; rw [zip_snd (by simpa using h)]
  | [], _ :: _, h => by simp at h
  | _ :: _, [], h => by simp at h
theorem DpAll.zip {K : PySem.W.Frag} {H : Hp} : ∀ {vs : List V} {ds : List D}, DpAll K H vs ds → vs.length = ds.length ∧ ∀ p ∈ vs.zip ds, Dp K H p.1 p.2
  | _, _, .nil => ⟨rfl, fun p h => by cases h⟩
  | _, _, .cons h t => by
    obtain ⟨q1, q2⟩ := DpAll.zip t
    refine ⟨by simp only [List.length_cons, q1], fun p hp => ?_⟩
    rcases List.mem_cons.mp hp with rfl | hp
    · exact h
    · exact q2 p hp
theorem depth_mem : ∀ {ds : List D} {d : D}, d ∈ ds → d.depth ≤ PyData.depthAll ds
  | e :: ds, d, h => by
    rw [PyData.depthAll]
    rcases List.mem_cons.mp h with rfl | h
    · exact Nat.le_max_left _ _
    · exact Nat.le_trans (depth_mem h) (Nat.le_max_right _ _)
def srt (ds : List D) : List D := ds.mergeSort (PySem.W.dataLe false id)
def rSort (K : PySem.W.Frag) : List V → Hp → VK → Prop := fun xs H Q => ∃ (a : Addr) (vs : List V) (ds : List D), xs = [.ref a] ∧ (SqL K H a vs ∨ SqT K H a vs) ∧ DpAll K H vs ds ∧ PySem.W.AllAlike ds ∧ Sortie ds ∧ PyData.depthAll ds ≤ 64 ∧
  ∀ (ps : List (V × D)) (p : Addr), ps.Perm (vs.zip ds) → ps.map (·.2) = srt ds → H p = none → Q (.ref p) (upd H p (.lst (ps.map (·.1))))
theorem sort_map (ps : List (V × D)) : (ps.mergeSort (PySem.W.dataLe false (·.2))).map (·.2) = srt (ps.map (·.2)) := by
  unfold srt
  rw [List.map_mergeSort]
  intro a _ b _
  rfl
theorem call_sortM {X : Cx} (hu : X.A.units + 80 < cLine) : CallR X (.builtin "sorted") (rSort X.K) := by
  intro pins s σ H xs us Q I r h
  obtain ⟨a, vs, ds, rfl, hq, hd, hal, hk, hdep, q⟩ := h
  obtain ⟨u, rfl, rx⟩ := vals1 r
  cases rx
  have hL := line63
  obtain ⟨its, rv, T, o, hT, ho, hc, n, hdt, hz⟩ : ∃ its : List Value, Vals vs its ∧ ∃ (T : String) (o : Obj), (T = "list" ∨ T = "tuple") ∧ s.heap.get? a = some o ∧ o.cls = .type T ∧ ∃ n, o.data = .seq its.toArray n ∧ vs.length ≤ sizeLine := by
    rcases hq with hq | hq
    · obtain ⟨its, r', pl, hz⟩ := I.list hq
      obtain ⟨o, ho, hc, n, hd⟩ := pl.isList
      exact ⟨its, r', "list", o, .inl rfl, ho, hc, n, hd, hz⟩
    · obtain ⟨its, r', pl, hz⟩ := I.tuple hq
      obtain ⟨o, ho, hc, n, hd⟩ := pl
      exact ⟨its, r', "tuple", o, .inr rfl, ho, hc, n, hd, hz⟩
  have hlen := rv.length
  refine Calls.call_function_entry PyProof.Rows.kind_sorted PyProof.Rows.plain_sorted PyProof.Rows.entry_sorted (PyProof.Rows.args_sorted1 _) ?_
  unfold Builtin.«sorted»
  refine wpAny_bind (m := checkCount "sorted" 1 1 _) (wpAny_pure ?_)
  refine wpAny_bind (wpAny_collect_seq (hsz := by simp only [List.size_toArray]; omega) a hT ho hc hdt fun h' hk' => ?_)
  have et : its.toArray.toList = its := by simp
  rw [et]
  refine wpAny_bind (wpAny_newList ?_ (by omega))
  have hoL : (h'.push (seqObj "list" its.toArray 0)).get? h'.objs.size = some (seqObj "list" its.toArray 0) := Heap.get?_push_size _ rfl
  have I1 : Inv X pins σ H { s with heap := h' } := I.kept (t' := s.toks) hk'
  have kp : ∀ b u, s.heap.get? b = some u → (h'.push (seqObj "list" its.toArray 0)).get? b = some u := fun b u e => Heap.get?_push_of_some _ (hk' b u e)
  have I2 : Inv X pins σ H { s with heap := h'.push (seqObj "list" its.toArray 0) } := I.kept (t' := s.toks) kp
  obtain ⟨as, ra⟩ := Dp.readsAll (s := { s with heap := h'.push (seqObj "list" its.toArray 0) }) I2 ds vs its hd rv
  obtain ⟨e1, e2⟩ := pairs_each rv ra
  obtain ⟨zl, zd⟩ := DpAll.zip hd
  have z2 : (vs.zip ds).map (·.2) = ds := zip_snd zl
  have hrm : ∀ (d : D), d ∈ ds → X.A.in1.in1.units + d.depth < cLine := fun d m => by
    have := depth_mem m
    have hh : X.A.in1.in1.units = X.A.units + 2 := rfl
    omega
  show wpAny _ _ _ _ _ { s with heap := h'.push (seqObj "list" its.toArray 0) }
  have e3 : PySem.W.EachIs (fun u (p : V × D) => ∃ as, Reads (PySem.W.sortingHeap (h'.push (seqObj "list" its.toArray 0)) h'.objs.size its) u p.2 as) its (vs.zip ds) := by
    have rb := Dp.readsAll (s := { s with heap := PySem.W.sortingHeap (h'.push (seqObj "list" its.toArray 0)) h'.objs.size its }) (I1.kept (t' := s.toks) (h' := PySem.W.sortingHeap (h'.push (seqObj "list" its.toArray 0)) h'.objs.size its) fun b o e => by
      have hb : b < h'.objs.size := Heap.lt_size e
      exact PySem.W.sortingHeap_old (Nat.ne_of_lt hb) (Heap.get?_push_of_some _ e)) ds vs its hd rv
    obtain ⟨as, rb⟩ := rb
    exact (pairs_each rv rb).2
  refine wpAny_bind (wpAny_holding (wpAny_call_entry PyProof.Rows.slot_list_sort ⟨_, hoL, rfl⟩ PyProof.Rows.entry_list_sort
    (PySem.W.list_sort_vals (κ := PySem.W.dataKind (PySem.W.sortingHeap (h'.push (seqObj "list" its.toArray 0)) h'.objs.size its) ((vs.zip ds).map (·.2))) (s := { s with heap := h'.push (seqObj "list" its.toArray 0) }) hoL
      (sortsAt_ie (s := { s with heap := PySem.W.sortingHeap (h'.push (seqObj "list" its.toArray 0)) h'.objs.size its }) (PySem.W.each_map (R := fun v d => ∃ as, Reads (PySem.W.sortingHeap (h'.push (seqObj "list" its.toArray 0)) h'.objs.size its) v d as) (fun (p : V × D) => p.2) e3) (by rw [z2]; exact hal) (by rw [z2]; exact hk) (by rw [z2]; exact hrm)) (by omega) ⟨_, rfl, ?_⟩)
    (PyProof.Rows.args_list_sort _)))
  have out := PySem.W.sortVals_data (enc := fun (p : V × D) => p.2) false e1 e3 (by rw [z2]; exact hal)
  generalize hOut : PySem.W.sortVals (PySem.W.dataKind (PySem.W.sortingHeap (h'.push (seqObj "list" its.toArray 0)) h'.objs.size its) ((vs.zip ds).map (·.2))) false its its = ov at out
  have vo := vals_each out
  have pm : ((vs.zip ds).mergeSort (PySem.W.dataLe false fun (p : V × D) => p.2)).Perm (vs.zip ds) := List.mergeSort_perm _ _
  have hsm := sort_map (vs.zip ds)
  rw [z2] at hsm
  have hlz : (vs.zip ds).length = vs.length := by rw [List.length_zip]; omega
  obtain ⟨e', he'⟩ := PyProof.Rows.sortedHeap_at (vs := its) (out := ov.toArray) hoL
  refine wpAny_pure ⟨_, rfl, .ref h'.objs.size, upd H h'.objs.size (.lst (((vs.zip ds).mergeSort (PySem.W.dataLe false fun (p : V × D) => p.2)).map (·.1))), I1.laid (t' := s.toks) (fun b u e => ?_) (Nat.le_refl _)
    (show ObjOk X.prog X.w _ _ _ (.lst _) from ⟨by rw [List.length_map, pm.length_eq]; omega, ov, e', vo, he'⟩), rfl, q _ _ pm hsm (I1.hok.fresh (Nat.le_refl _))⟩
  have hb : b < h'.objs.size := Heap.lt_size e
  rw [PyProof.Rows.sortedHeap_old (Nat.ne_of_lt hb) (by rw [size_push']; exact Nat.lt_succ_of_lt hb)]
  exact Heap.get?_push_of_some _ e
def alikeB (ds : List D) : Bool := ds.all fun d => ds.all fun e => PySem.W.alike d e
def isTupC : D → Bool
  | .tuple _ => true
  | _ => false
def isOth : D → Bool
  | .none => false
  | .tuple _ => false
  | _ => true
def sortB (ds : List D) : Bool := alikeB ds && (ds.all isTupC || ds.all isOth) && decide (PyData.depthAll ds ≤ 64)
theorem alikeB_ok {ds : List D} (h : alikeB ds = true) : PySem.W.AllAlike ds := fun d hd e he => by
  unfold alikeB at h
  rw [List.all_eq_true] at h
  have := h d hd
  rw [List.all_eq_true] at this
  exact this e he
theorem sortB_ok {ds : List D} (h : sortB ds = true) : PySem.W.AllAlike ds ∧ Sortie ds ∧ PyData.depthAll ds ≤ 64 := by
  unfold sortB at h
  simp only [Bool.and_eq_true, Bool.or_eq_true, decide_eq_true_eq] at h
  refine ⟨alikeB_ok h.1.1, ?_, h.2⟩
  rcases h.1.2 with h | h
  · refine .inl fun d hd => ?_
    have := List.all_eq_true.mp h d hd
    cases d with
    | tuple xs => exact ⟨xs, rfl⟩
    | _ => cases this
  · refine .inr (.inr fun d hd => ?_)
    have := List.all_eq_true.mp h d hd
    cases d with
    | none => cases this
    | tuple _ => cases this
    | _ => exact ⟨(by intro z; cases z), (by intro _ z; cases z)⟩
def gSort : D → Option XV
  | .list ds => if sortB ds = true then some (.fr (.l (srt ds))) else none
  | .tuple ds => if sortB ds = true then some (.fr (.l (srt ds))) else none
  | _ => none
theorem Dqs.dpAll {K : KK} {F : Hp} : ∀ {vs : List V} {ds : List D}, Dqs K F vs ds → DpAll K F vs ds
  | [], [], _ => .nil
  | v :: vs, d :: ds, h => by
    obtain ⟨w, ws, e, h1, h2⟩ := h.uncons
    cases e
    exact .cons (dw_dp _ _ h1.1) (Dqs.dpAll h2)
  | [], d :: ds, h => by obtain ⟨_, _, e, _⟩ := h.uncons; cases e
  | v :: vs, [], h => by cases h.unnil
theorem Dqs.zip {K : KK} {F : Hp} : ∀ {vs : List V} {ds : List D}, Dqs K F vs ds → ∀ p ∈ vs.zip ds, Dq K F p.1 p.2
  | [], _, _, p, h => by simp at h
  | v :: vs, d :: ds, q, p, h => by
    obtain ⟨w, ws, e, h1, h2⟩ := q.uncons
    cases e
    rcases List.mem_cons.mp h with rfl | h
    · exact h1
    · exact Dqs.zip h2 p h
  | v :: vs, [], q, p, h => by simp at h
theorem Dqs.of_pairs {K : KK} {F : Hp} : ∀ {ps : List (V × D)}, (∀ p ∈ ps, Dq K F p.1 p.2) → Dqs K F (ps.map (·.1)) (ps.map (·.2))
  | [], _ => .nil
  | p :: ps, h => .cons (h p List.mem_cons_self) (Dqs.of_pairs fun q m => h q (List.mem_cons_of_mem _ m))
theorem DpAll.mono {K : KK} {F H : Hp} (s : Sub F H) {vs : List V} {ds : List D} (h : Dqs K F vs ds) : DpAll K H vs ds := (h.sub s).dpAll
theorem srt_len (ds : List D) : (srt ds).length = ds.length := (List.mergeSort_perm _ _).length_eq
theorem c_sort {K : KK} : Call1 K (rSort K) gSort := by
  intro F H x d z Q s l hg q
  have main : ∀ (a : Addr) (vs : List V) (ds : List D), x = .ref a → (SqL K H a vs ∨ SqT K H a vs) → Dqs K F vs ds → ds.length ≤ sizeLine → sortB ds = true → z = .fr (.l (srt ds)) → rSort K [x] H Q := fun a vs ds ex hq hd hl hb ez => by
    subst ex ez
    obtain ⟨h1, h2, h3⟩ := sortB_ok hb
    refine ⟨a, vs, ds, rfl, hq, DpAll.mono s hd, h1, h2, h3, fun ps p pm em hp => ?_⟩
    have n := New.open (o := .lst (ps.map (·.1))) s hp
    refine q _ _ _ n ⟨p, rfl, hp, s.none hp, ps.map (·.1), upd_same, ?_, by rw [srt_len]; exact hl⟩
    have := Dqs.of_pairs (K := K) (F := F) (ps := ps) fun p m => Dqs.zip hd p (pm.mem_iff.mp m)
    rw [em] at this
    exact this.sub n.fz
  unfold gSort at hg
  split at hg
  · split at hg
    · rename_i hb; cases hg
      obtain ⟨a, vs, rfl, h1, h2, h3⟩ := l.lst s
      exact main a vs _ rfl (.inl (.inl (.inl h1))) h2 h3 hb rfl
    · cases hg
  · split at hg
    · rename_i hb; cases hg
      obtain ⟨a, vs, rfl, h1, h2, h3, h4⟩ := l.tup s
      exact main a vs _ rfl (.inr h1) h2 h3 hb rfl
    · cases hg
  · cases hg
theorem se_sorted1 {k : Nat} {c : Ctx} {a : Expr} {f : Ex} {pos p : Pos} (hg : c.sc.names.lookup (Str.ofString "sorted") = some .globalImplicit) (hm : c.g.mg "sorted" = none) (h : SE k c a f) (hs : ∀ env, starEach [a] env = [(false, eval a env)] := by intro _; rfl) : SE k c (.Call (.Name "sorted" p) [a] [] pos) (x1 gSort f) :=
  se_b1 (id := "sorted") hg hm (by decide +kernel) (fun X hX => by have := units_of hX; obtain ⟨⟨TT0, rfl⟩, _⟩ := hX; exact call_sortM (by omega)) c_sort h hs
def smallI (j : Int) : Prop := j.natAbs ≤ 1000000
instance (j : Int) : Decidable (smallI j) := inferInstanceAs (Decidable (_ ≤ _))
abbrev RgEx := En → Option (Int × Int × En)
def rg1 (f : Ex) : RgEx := fun ρ => (f ρ).bind fun p => match p.1 with
  | .v (.int j) => if smallI j then some (0, j, p.2) else none
  | _ => none
def rg2 (f1 f2 : Ex) : RgEx := fun ρ => (f1 ρ).bind fun p => match p.1 with
  | .v (.int i) => (f2 p.2).bind fun q => match q.1 with
    | .v (.int j) => if smallI i ∧ smallI j then some (i, j, q.2) else none
    | _ => none
  | _ => none
def SndRg (K : KK) (t : L2.St → Hp → (Int → Int → Hp → Prop) → Prop) (f : RgEx) : Prop :=
  ∀ (ρ : En) (σ : Sg) (H F : Hp) (Q : Int → Int → Hp → Prop) (i j : Int) (ρ' : En), Gd K ρ σ H F → f ρ = some (i, j, ρ') →
    (∀ H' F', Gd K ρ' σ H' F' → Ext ρ σ H F ρ' σ H' F' → smallI i → smallI j → Q i j H') → t σ H Q
structure SRg (k : Nat) (c : Ctx) (e : Expr) (f : RgEx) : Prop where
  ex : ∃ t, (∀ X, Fits k c X → PRg X e t) ∧ SndRg c.g.K t f
section
variable {k : Nat} {c : Ctx} {a b e : Expr} {f f1 f2 : Ex} {pos p p2 : Pos} {fr : RgEx}
theorem srg_1 (hg : c.sc.names.lookup (Str.ofString "range") = some .globalImplicit) (hm : c.g.mg "range" = none) (h : SE k c a f) (hs : ∀ env, starEach [a] env = (false, eval a env) :: starEach [] env := by intro _; rfl) : SRg k c (.Call (.Name "range" p) [a] [] pos) (rg1 f) := by
  obtain ⟨⟨t, pp, s⟩⟩ := h
  refine ⟨tRg1 t, fun X hX => ?_, ?_⟩
  · have q := pp X hX
    obtain ⟨⟨TT0, rfl⟩, _⟩ := hX
    exact prg_1 hg hm q (hs _)
  · intro ρ σ H F Q i j ρ' G e q
    unfold rg1 at e
    rw [Option.bind_eq_some_iff] at e
    obtain ⟨⟨x, ρ1⟩, e1, e⟩ := e
    simp only at e
    split at e
    · split at e
      · rename_i hj; cases e
        exact s ρ σ H F _ _ _ G e1 fun v H' F' G' E' r => ⟨_, Dq.unint r, q H' F' G' E' (by unfold smallI; omega) hj⟩
      · cases e
    · cases e
def xlrg (fr : RgEx) : Ex := fun ρ => (fr ρ).map fun p => (.fr (.l (rngL p.1 (p.2.1 - p.1).toNat)), p.2.2)
def xtrg (fr : RgEx) : Ex := fun ρ => (fr ρ).map fun p => (.v (.tuple (rngL p.1 (p.2.1 - p.1).toNat)), p.2.2)
theorem dqs_ints {K : KK} {F : Hp} (g : Nat → Int) : ∀ l : List Nat, Dqs K F (l.map fun i => V.int (g i)) (l.map fun i => PyData.int (g i))
  | [] => .nil
  | i :: l => .cons (Dq.int _) (dqs_ints g l)
theorem dqs_rg {K : KK} {F : Hp} (i j : Int) : Dqs K F (rgV i j) (rngL i (j - i).toNat) := dqs_ints (fun n => i + (n : Int)) _
theorem rgOk_small {i j : Int} (h1 : smallI i) (h2 : smallI j) : RgOk i j := by
  unfold smallI at h1 h2
  refine ⟨?_, ?_, ?_, ?_, ?_⟩ <;> omega
theorem rng_line {i j : Int} (h1 : smallI i) (h2 : smallI j) : (rngL i (j - i).toNat).length ≤ sizeLine := by
  unfold smallI at h1 h2
  rw [rngL_len, sizeLine_eq]; omega
theorem se_lstRg (hg : c.sc.names.lookup (Str.ofString "list") = some .globalImplicit) (hm : c.g.mg "list" = none) (h : SRg k c e fr) (hs : ∀ env, starEach [e] env = (false, eval e env) :: starEach [] env := by intro _; rfl) (hcm : c.calm = true := by rfl) : SE k c (.Call (.Name "list" p) [e] [] pos) (xlrg fr) := by
  obtain ⟨⟨t, pp, s⟩⟩ := h
  refine ⟨tLstRg t, fun X hX => ?_, ?_⟩
  · have q := pp X hX
    have hc := (hX.calm hcm)
    obtain ⟨⟨TT0, rfl⟩, _⟩ := hX
    exact pe_listRg hc hg hm q (hs _)
  · intro ρ σ H F Q x ρ' G e q
    unfold xlrg at e
    rw [Option.map_eq_some_iff] at e
    obtain ⟨⟨i, j, ρ1⟩, e1, e⟩ := e
    cases e
    refine s ρ σ H F _ _ _ _ G e1 fun H' F' G' E' h1 h2 => ⟨rgOk_small h1 h2, fun r hr => ?_⟩
    have n := New.open (o := .lst (rgV i j)) G'.sub hr
    exact q _ _ _ (n.gd G') (E'.trans (n.ext G')) ⟨r, rfl, none_back E'.dom hr, G'.sub.none hr, ⟨_, upd_same, dqs_rg i j, rng_line h1 h2⟩, G'.fresh hr⟩
abbrev OEx := En → Option (Option Int × En)
def onone : OEx := fun ρ => some (none, ρ)
def osome (f : Ex) : OEx := fun ρ => (f ρ).bind fun p => match p.1 with
  | .v (.int j) => some (some j, p.2)
  | _ => none
def cutD {α : Type} (xs : List α) (lo hi : Option Int) : List α := (xs.drop (HT.sIx xs.length 0 lo)).take (HT.sIx xs.length xs.length hi - HT.sIx xs.length 0 lo)
def gSl (lo hi : Option Int) : D → Option XV
  | .list ds => some (.fr (.l (cutD ds lo hi)))
  | .tuple ds => some (.v (.tuple (cutD ds lo hi)))
  | .str z => if okD (.str (cutS z lo hi)) = true then some (.v (.str (cutS z lo hi))) else none
  | _ => none
def xsl (f : Ex) (lo hi : OEx) : Ex := fun ρ => (stl f ρ).bind fun p => (lo p.2).bind fun l => (hi l.2).bind fun h => (look h.2 p.1).bind fun d => (gSl l.1 h.1 d).map fun z => (z, h.2)
end
def xlenS (i : Nat) : Ex := fun ρ => match ρ[i]? with
  | some (.r ns) => some (.v (.int ns.length), ρ)
  | _ => none
def rLenS (K : PySem.W.Frag) : List V → Hp → VK → Prop := fun xs H Q => ∃ p ys, xs = [.ref p] ∧ (SqL K H p ys ∨ SqT K H p ys) ∧ Q (.int ys.length) H
section
variable {k : Nat} {c : Ctx} {a b e : Expr} {f f1 f2 : Ex} {pos p p2 : Pos}
theorem se_lenS (i : Nat) {x : Str} {p1 : Pos} (hg : c.sc.names.lookup (Str.ofString "len") = some .globalImplicit) (hm : c.g.mg "len" = none) (hN : c.N[i]? = some x) (hv : Vis c.sc x)
    (hs : ∀ env, starEach [.Name x p1] env = (false, eval (.Name x p1) env) :: starEach [] env := by intro _; rfl) (hd : (x == ("__debug__" : Str)) = false := by decide) (hcd : (x == ("__classdict__" : Str)) = false := by decide) :
    SE k c (.Call (.Name "len" p) [.Name x p1] [] pos) (xlenS i) := by
  refine ⟨tCB (rLenS c.g.K) (tCons (tVar i) tNil), fun X hX => ?_, ?_⟩
  · obtain ⟨⟨TT0, rfl⟩, _⟩ := hX
    exact pe_callB (r := rLenS X.K) call_len_seq hg hm PySem.boot_len (pa_cons (pe_var hN hv hd hcd) pa_nil (hs := hs _)) (he := hs _) (hpl := rfl)
  · intro ρ σ H F Q x ρ' G e q
    unfold xlenS at e
    split at e
    · rename_i ns h
      cases e
      obtain ⟨a, h1, h2, h3⟩ := G.scr i ns h
      refine ⟨_, h1, a, ns.map V.int, rfl, .inl (sqL_sub G.sub h2), ?_⟩
      rw [List.length_map]
      exact q _ H F G (Ext.refl ..) (Dq.int _)
    · cases e
def gMax2 : D → D → Option XV := gI (fun _ _ => true) fun i j => .int (if j > i then j else i)
end
def gRev : D → Option XV
  | .list ds => some (.fr (.l ds.reverse))
  | .tuple ds => some (.v (.tuple ds.reverse))
  | _ => none
structure FnAt (g : Gb) (T : Tab) (Fns : List Str) (x : Str) : Prop where
  ex : ∃ (f : Addr) (fd : FuncData) (ps : List Str), (∀ k, (∀ y, Fns.contains y = true → FnIn g k (callF T k) y) → FnOk g.prog g.w g.K g.mg g.base (L2.CX g.prog g.w) (k + 1) f fd ps (spC g (callF T (k + 1)) x)) ∧
    g.mg x = some (.ref f) ∧ PySem.W.keepIn g.K (.ref f) = true ∧ Binds g.K fd ps []
theorem all_ok {g : Gb} {T : Tab} {Fns : List Str} (h : ∀ x, Fns.contains x = true → FnAt g T Fns x) : ∀ k x, Fns.contains x = true → FnIn g k (callF T k) x
  | 0, x, hx => by
    obtain ⟨f, fd, ps, _, h2, h3, h4⟩ := h x hx
    refine ⟨f, fd, ps, ⟨fun vs H Q E q => ?_, fun A outer s H args us vs Q E _ _ _ _ q => ?_⟩, h2, h3, h4⟩
    · obtain ⟨_, _, _, _, e, _⟩ := q; cases e
    · obtain ⟨_, _, _, _, e, _⟩ := q; cases e
  | k + 1, x, hx => by
    obtain ⟨f, fd, ps, h1, h2, h3, h4⟩ := h x hx
    exact ⟨f, fd, ps, h1 k (all_ok h k), h2, h3, h4⟩
theorem fnAt_of {g : Gb} {N ps : List Str} {x : Str} {st : Stmt} {f : Addr} {fd : FuncData} {T : Tab} {d : FnD} {Fns : List Str}
    (F : Fun g.K x x st f fd) (S : FnScope N ps (defScope st)) (hT : T.lookup x = some d) (hN : N.length = d.slots) (hp : ps.length = d.par) (hm : g.mg x = some (.ref f)) (hb : Binds g.K fd ps [])
    (D : ∀ k, (∀ y, Fns.contains y = true → FnIn g k (callF T k) y) → SSs k ⟨g, N, defScope st, fun _ => true, true, none⟩ (defBody st) (d.body (callF T k))) : FnAt g T Fns x :=
  ⟨f, fd, ps, fun k ih => fn_ok F S hT hN hp (D k ih), hm, F.kp, hb⟩
theorem fnAt_lam {g : Gb} {N ps : List Str} {x : Str} {st : Stmt} {f c P : Addr} {q : Str} {fd : FuncData} {T : Tab} {d : FnD} {Fns : List Str}
    (F : Fun g.K x x st f fd) (FC : FunC g.K x x st f fd (.ref c)) (TB : LamX.TabB g.base g.mg c P) (hq : x ++ ".<locals>." ++ "<lambda>" = q) (S : FnScope N ps (defScope st)) (hT : T.lookup x = some d) (hN : N.length = d.slots) (hp : ps.length = d.par) (hm : g.mg x = some (.ref f)) (hb : Binds g.K fd ps [])
    (D : ∀ k, (∀ y, Fns.contains y = true → FnIn g k (callF T k) y) → SSs k ⟨g, N, defScope st, fun _ => true, true, some (P, q)⟩ (defBody st) (d.body (callF T k))) : FnAt g T Fns x :=
  ⟨f, fd, ps, fun k ih => fn_okC FC (fun P' q' e => by cases e; exact ⟨c, rfl, TB, hq⟩) S hT hN hp (D k ih), hm, F.kp, hb⟩
def AllP (P : Str → Prop) : List Str → Prop
  | [] => True
  | x :: l => P x ∧ AllP P l
theorem all_names {P : Str → Prop} : ∀ (l : List Str), AllP P l → ∀ x, l.contains x = true → P x
  | [], _, x, h => by simp at h
  | y :: l, ⟨h1, h2⟩, x, h => by
    rw [List.contains_cons] at h
    rcases Bool.or_eq_true_iff.mp h with h | h
    · have : x = y := by simpa using h
      subst this; exact h1
    · exact all_names l h2 x h
def spLawT (T : List (Addr × Str)) (K : PySem.W.Frag) : Sp := fun vs H Q _ => LamX.Tabs T H ∧ ∃ (a : Addr) (ns : List Int), vs = [.ref a] ∧ SqL K H a (ns.map V.int) ∧ ns.length ≤ 63 ∧ ∀ H', Q (.bl true) H'
def Good (C : Calls) : Prop := ∀ ns : List Int, ns.length ≤ 63 → ∃ outs, C (Str.ofString "law") [.r ns] = some (.ok (.v (.bool true)) outs)
theorem law_of {g : Gb} {k : Nat} {C : Calls} {f : Addr} {fd : FuncData} {ps : List Str} (F : FnOk g.prog g.w g.K g.mg g.base (L2.CX g.prog g.w) k f fd ps (spC g C (Str.ofString "law"))) (h : Good C) :
    FnOk g.prog g.w g.K g.mg g.base (L2.CX g.prog g.w) k f fd ps (spLawT g.T g.K) := by
  refine F.imp fun vs H Q E q => ?_
  obtain ⟨hTb, a, ns, rfl, hS, hl, q⟩ := q
  obtain ⟨outs, e⟩ := h ns hl
  let F : Hp := fun b => if b = a then (match H a with | some (.tbl _) => none | o => o) else none
  have hF : ∀ {b o}, F b = some o → b = a ∧ H a = some o ∧ NT o := fun {b o} e => by
    by_cases hb : b = a
    · refine ⟨hb, ?_⟩
      have e : (if b = a then (match H a with | some (.tbl _) => none | o => o) else none) = some o := e
      rw [if_pos hb] at e
      split at e
      · cases e
      · rename_i h; exact ⟨e, fun ps z => by subst z; exact h ps e⟩
    · have e : (if b = a then (match H a with | some (.tbl _) => none | o => o) else none) = some o := e
      rw [if_neg hb] at e; cases e
  have hFa : ∀ {o}, H a = some o → NT o → F a = some o := fun {o} e n => by
    show (if a = a then (match H a with | some (.tbl _) => none | o => o) else none) = some o
    rw [if_pos rfl, e]
    cases o <;> first | rfl | exact absurd rfl (n _)
  have hsub : Sub F H := fun b o e => by
    obtain ⟨h1, h2, _⟩ := hF e
    rw [h1]; exact h2
  refine ⟨F, [.r ns], _, ⟨rfl, hsub, fun i d e => ?_, fun i ms e => ?_, fun i b c e => ?_, fun i j b x y => ?_, hTb, fun b o e => (hF e).2.2⟩, e, fun v H' F' _ _ r => ?_⟩
  · match i with
    | 0 => cases e
    | i + 1 => simp at e
  · match i with
    | 0 =>
      cases e
      refine ⟨a, rfl, ?_, by have := line63; rw [sizeLine_eq]; omega⟩
      rcases hS with (h | ⟨o, h⟩) | h
      · exact .inl (.inl (hFa h (nt_lst _)))
      · exact .inl (.inr ⟨o, hFa h (nt_frz _ _)⟩)
      · exact .inr h
    | i + 1 => simp at e
  · match i with
    | 0 => rcases e with e | e <;> cases e
    | i + 1 => rcases e with e | e <;> simp at e
  · obtain ⟨⟨b1, c1, z⟩, _⟩ := x
    match i with
    | 0 => rcases z with z | z <;> cases z
    | i + 1 => rcases z with z | z <;> simp at z
  · rw [Dq.unbl r]; exact q H'
theorem no_CX {P : Program} {w : World} {H : Hp} {s s' : Shared} {e : Value} (h : L2.CX P w [] H s (fun _ _ _ => False) e s') : False := by
  obtain ⟨_, _, _, _, _, _, _, _, _, _, _, _, h⟩ := h; exact h
theorem law_fnT {P : Program} {w : World} {K : PySem.W.Frag} {Tt : List (Addr × Str)} {mg : Str → Option Value} {base : Heap} {T : Tab} {Fns : List Str} {k : Nat} {N : List Str} {st : Stmt} {f : Addr} {fd : FuncData} {d : FnD}
    (all : ∀ x, Fns.contains x = true → FnAt ⟨P, w, K, mg, base, Tt⟩ T Fns x) (F : Fun K (Str.ofString "law") (Str.ofString "law") st f fd) (S : FnScope N [Str.ofString "script"] (defScope st)) (hT : T.lookup (Str.ofString "law") = some d) (hN : N.length = d.slots) (hp : 1 = d.par)
    (D : ∀ k, (∀ y, Fns.contains y = true → FnIn ⟨P, w, K, mg, base, Tt⟩ k (callF T k) y) → SSs k ⟨⟨P, w, K, mg, base, Tt⟩, N, defScope st, fun _ => true, true, none⟩ (defBody st) (d.body (callF T k))) (h : Good (callF T (k + 1))) :
    FnOk P w K mg base (L2.CX P w) (k + 1) f fd [Str.ofString "script"] (spLawT Tt K) :=
  law_of (g := ⟨P, w, K, mg, base, Tt⟩) (fn_ok F S hT hN hp (D k (all_ok all k))) h
def rBst (K : PySem.W.Frag) (f : D → List D → D) : List V → Hp → VK → Prop := fun xs H Q => ∃ (a : Addr) (vs : List V) (d : D) (ds : List D), xs = [.ref a] ∧ (SqL K H a vs ∨ SqT K H a vs) ∧ DpAll K H vs (d :: ds) ∧ PySem.W.AlikeAll (d :: ds) ∧ PyData.depthAll (d :: ds) ≤ 64 ∧
  ∀ (i : Nat) (w : V), vs[i]? = some w → (d :: ds)[i]? = some (f d ds) → Q w H
theorem DpAll.get {K : PySem.W.Frag} {H : Hp} : ∀ {vs : List V} {ds : List D} {i : Nat} {w : V}, DpAll K H vs ds → vs[i]? = some w → ∃ d, ds[i]? = some d ∧ Dp K H w d
  | _, _, 0, w, .cons h t, e => by simp at e; subst e; exact ⟨_, rfl, h⟩
  | _, _, i + 1, w, .cons h t, e => by
    obtain ⟨d, h1, h2⟩ := DpAll.get t (i := i) (w := w) (by simpa using e)
    exact ⟨d, by simpa using h1, h2⟩
theorem vals_at {vs : List V} {us : List Value} {i : Nat} {u : Value} (r : Vals vs us) (h : us[i]? = some u) : ∃ w, vs[i]? = some w ∧ RelV w u := by
  cases e : vs[i]? with
  | none => rw [r.none_of e] at h; cases h
  | some w =>
    obtain ⟨u', h1, h2⟩ := r.get e
    rw [h] at h1; cases h1
    exact ⟨w, rfl, h2⟩
theorem bst_end {X : Cx} {pins : List (Addr × Obj)} {σ : L2.St} {H : Hp} {s : Shared} {vs : List V} {its : List Value} {d : D} {ds : List D} {f : D → List D → D} {Q : VK} (I : Inv X pins σ H s) (rv : Vals vs its) (hd : DpAll X.K H vs (d :: ds))
    (q : ∀ (i : Nat) (w : V), vs[i]? = some w → (d :: ds)[i]? = some (f d ds) → Q w H) {i : Nat} {v : Value} {h' : Heap} {tk : Tok} {bs : List Addr} (hv : its.toArray[i]? = some v) (hr : Reads h' v (f d ds) bs) (hk : ∀ b o, s.heap.get? b = some o → h'.get? b = some o) :
    ∃ w H', Inv X pins σ H' { s with heap := h', toks := tk } ∧ RelV w v ∧ Q w H' := by
  have hv' : its[i]? = some v := by simpa using hv
  obtain ⟨w, hw, rw'⟩ := vals_at rv hv'
  obtain ⟨e, he, hp⟩ := DpAll.get hd hw
  obtain ⟨as, ra⟩ := Dp.reads I e w v hp rw'
  have := (reads_det (fun b o h _ => hk b o h) ra hr).1
  subst this
  exact ⟨w, H, I.kept hk, rw', q i w hw he⟩
theorem call_minM {X : Cx} (hc : X.calm = true) (hu : X.A.units + 80 < cLine) : CallR X (.builtin "min") (rBst X.K PySem.W.minD) := by
  intro pins s σ H xs us Q I r h
  obtain ⟨a, vs, d, ds, rfl, hq, hd, hal, hdep, q⟩ := h
  rw [Vals.ref1 r]
  rcases hq with hq | hq
  · obtain ⟨its, rv, pl, hz⟩ := I.list hq
    obtain ⟨as, ra⟩ := Dp.readsAll I (d :: ds) vs its hd rv
    exact PySem.W.min_list_data (I.ok.hd hc) pl.isList (by simpa using ra) hal (by omega) fun i v h' tk bs hv hr hk => bst_end I rv hd q hv hr hk
  · obtain ⟨its, rv, pl, hz⟩ := I.tuple hq
    obtain ⟨as, ra⟩ := Dp.readsAll I (d :: ds) vs its hd rv
    exact PySem.W.min_tuple_data (I.ok.hd hc) pl (by simpa using ra) hal (by omega) fun i v h' tk bs hv hr hk => bst_end I rv hd q hv hr hk
def bestB (ds : List D) : Bool := alikeB ds && ds.all (fun d => !isNone d) && decide (PyData.depthAll ds ≤ 64)
theorem bestB_ok {ds : List D} (h : bestB ds = true) : PySem.W.AlikeAll ds ∧ PyData.depthAll ds ≤ 64 := by
  unfold bestB at h
  simp only [Bool.and_eq_true, decide_eq_true_eq, List.all_eq_true] at h
  refine ⟨⟨fun x hx y hy => alikeB_ok h.1.1 x hx y hy, fun x hx e => ?_⟩, h.2⟩
  have := h.1.2 x hx
  rw [e] at this; cases this
def gBst (f : D → List D → D) : D → Option XV
  | .list (d :: ds) => if bestB (d :: ds) = true then some (.v (f d ds)) else none
  | .tuple (d :: ds) => if bestB (d :: ds) = true then some (.v (f d ds)) else none
  | _ => none
theorem Dqs.at {K : KK} {F : Hp} {vs : List V} {ds : List D} {i : Nat} {w : V} {d : D} (h : Dqs K F vs ds) (hw : vs[i]? = some w) (hd : ds[i]? = some d) : Dq K F w d := by
  obtain ⟨v, h1, h2⟩ := h.get hd
  rw [hw] at h1; cases h1; exact h2
theorem c_bst {K : KK} {f : D → List D → D} : Call1 K (rBst K f) (gBst f) := by
  intro F H x d z Q s l hg q
  unfold gBst at hg
  split at hg
  · rename_i d0 ds
    split at hg
    · rename_i hb; cases hg
      obtain ⟨a, vs, rfl, h1, h2, h3⟩ := l.lst s
      obtain ⟨b1, b2⟩ := bestB_ok hb
      exact ⟨a, vs, d0, ds, rfl, .inl (.inl (.inl h1)), DpAll.mono s h2, b1, b2, fun i w hw hi => q w H F (New.refl s) (h2.at hw hi)⟩
    · cases hg
  · rename_i d0 ds
    split at hg
    · rename_i hb; cases hg
      obtain ⟨a, vs, rfl, h1, h2, h3, h4⟩ := l.tup s
      obtain ⟨b1, b2⟩ := bestB_ok hb
      exact ⟨a, vs, d0, ds, rfl, .inr h1, DpAll.mono s h2, b1, b2, fun i w hw hi => q w H F (New.refl s) (h2.at hw hi)⟩
    · cases hg
  · cases hg
section
variable {k : Nat} {c : Ctx} {a : Expr} {f : Ex} {pos p : Pos}
theorem se_minM (hg : c.sc.names.lookup (Str.ofString "min") = some .globalImplicit) (hm : c.g.mg "min" = none) (h : SE k c a f) (hs : ∀ env, starEach [a] env = [(false, eval a env)] := by intro _; rfl) (hcm : c.calm = true := by rfl) : SE k c (.Call (.Name "min" p) [a] [] pos) (x1 (gBst PySem.W.minD) f) :=
  se_b1 (id := "min") hg hm (by decide +kernel) (fun X hX => by have := units_of hX; have hc := (hX.calm hcm); obtain ⟨⟨TT0, rfl⟩, _⟩ := hX; exact call_minM hc (by omega)) c_bst h hs
end
def xmv (j : Nat) : Ex := fun ρ => match ρ[j]? with
  | some (.o false (.l ds)) => some (.v (.list ds), ρ.set j .un)
  | _ => none
theorem snd_mv {K : KK} (j : Nat) : SndE K (tVar j) (xmv j) := by
  intro ρ σ H F Q x ρ' G e q
  unfold xmv at e
  split at e
  · rename_i ds h
    cases e
    obtain ⟨a, h1, h2, vs, h3, h4, h5⟩ := G.opn j _ _ (.inl h)
    obtain ⟨u1, u2, u3⟩ := unset_ok G h
    have hn : ∀ i, ¬ HeldAt (ρ.set j .un) σ i a := fun i hi => by
      obtain ⟨z1, z2⟩ := u3 i a hi
      exact z1 (G.inj i j a z2 ⟨⟨_, _, .inl h⟩, h1⟩)
    have sF : Sub F (upd F a (.lst vs)) := Sub.new h2
    refine ⟨.ref a, h1, q (.ref a) H (upd F a (.lst vs)) ⟨u1.len, u1.sub.to h3, fun i d e => ?_, fun i ns e => ?_, fun i b c e => ?_, u1.inj, u1.tab.1, u1.tab.2.put (nt_lst _)⟩ ⟨u2.fz.trans sF, fun b o e nt n => ?_, u2.dom, u2.opn, u2.bor, u2.lck, u2.lw, u2.bw⟩ ?_⟩
    · obtain ⟨w, q1, q2⟩ := u1.val i d e
      exact ⟨w, q1, q2.sub sF⟩
    · obtain ⟨w, q1, q2, q3⟩ := u1.scr i ns e
      exact ⟨w, q1, sqL_sub sF q2, q3⟩
    · obtain ⟨b', q1, q2, q3⟩ := u1.opn i b c e
      have hb : b' ≠ a := fun z => hn i ⟨⟨b, c, e⟩, by rw [q1, z]⟩
      exact ⟨b', q1, by rw [upd_ne hb]; exact q2, q3.mono sF fun _ z => z⟩
    · obtain ⟨k1, k2⟩ := u2.keep b o e nt n
      refine ⟨k1, fun z => ?_⟩
      have hb : b ≠ a := fun y => n ⟨j, false, .l ds, h, by rw [y]; exact h1⟩
      rw [upd_ne hb]; exact k2 z
    · exact Dq.lst upd_same (h4.sub sF) h5
  · cases e
theorem se_mv {k : Nat} {c : Ctx} (j : Nat) {x : Str} {pos : Pos} (hN : c.N[j]? = some x) (hv : Vis c.sc x) (hd : (x == ("__debug__" : Str)) = false := by decide) (hcd : (x == ("__classdict__" : Str)) = false := by decide) : SE k c (.Name x pos) (xmv j) := by
  refine ⟨tVar j, fun X hX => ?_, snd_mv j⟩
  obtain ⟨⟨TT0, rfl⟩, _⟩ := hX
  exact pe_var hN hv hd hcd
def gIndex : D → D → Option XV
  | .list ds, d => if PyData.depth (.list ds) ≤ 64 ∧ d.depth ≤ 64 then (ds.findIdx? fun z => PyData.eqv z d).map fun j => .v (.int (j : Nat)) else none
  | .tuple ds, d => if PyData.depth (.list ds) ≤ 64 ∧ d.depth ≤ 64 then (ds.findIdx? fun z => PyData.eqv z d).map fun j => .v (.int (j : Nat)) else none
  | _, _ => none
theorem shaped_ok {d : D} (h : okD d = true) (h2 : d.depth ≤ 64) : SeqAt.shaped d = true := by
  show (d.canLay0 && decide (d.depth ≤ 64)) = true
  rw [Bool.and_eq_true]
  exact ⟨canLay_of_ok d h, decide_eq_true h2⟩
theorem findIdx_ok {ds : List D} {d : D} {j : Nat} (h : (ds.findIdx? fun z => PyData.eqv z d) = some j) : ∃ z, ds[j]? = some z ∧ PyData.eqv z d = true ∧ ∀ (m : Nat) (z' : D), m < j → ds[m]? = some z' → PyData.eqv z' d = false := by
  rw [List.findIdx?_eq_some_iff_getElem] at h
  obtain ⟨hj, h1, h2⟩ := h
  refine ⟨ds[j], List.getElem?_eq_getElem hj, h1, fun m z' hm hz => ?_⟩
  obtain ⟨hm2, e⟩ := List.getElem?_eq_some_iff.mp hz
  have := h2 m hm
  rw [← e]
  simpa using this
def rIndexT (K : PySem.W.Frag) : V → List V → Hp → VK → Prop := fun x xs H Q => ∃ (a : Addr) (vs : List V) (y : V) (d : PyData) (ds : List PyData) (j : Nat) (z : PyData), x = V.ref a ∧ xs = [y] ∧ SqT K H a vs ∧ DpAll K H vs ds ∧ Dp K H y d ∧
  SeqAt.shaped (.list ds) = true ∧ SeqAt.shaped d = true ∧ ds[j]? = some z ∧ PyData.eqv z d = true ∧ (∀ (m : Nat) (z' : PyData), m < j → ds[m]? = some z' → PyData.eqv z' d = false) ∧ Q (.int (j : Nat)) H
theorem mt_indexT {X : Cx} (hu : X.A.units + 65 < cLine) : MtR X "tuple.index" (rIndexT X.K) := by
  intro pn s0 st H0 x xs v us Q J rx rxs ⟨a, vs, y, d, ds, j, z, ex, exs, hs, ha, hy, sl, sd, hz, hzj, hno, q⟩
  subst ex exs
  cases rx
  cases rxs with
  | cons ry rt =>
    rename_i uy ut
    cases rt
    obtain ⟨bs, r1⟩ := Dp.reads J d y uy hy ry
    have hxs : PyData.canLayAll0 ds = true := SeqAt.canLay_of_shaped sl
    obtain ⟨its, rv, ⟨⟨cls, dd, data, sls⟩, ho, hc, n, hdt⟩, hlen⟩ := J.tuple hs
    simp only at hc hdt
    subst hc hdt
    obtain ⟨as, h4⟩ := Dp.readsAll J ds _ its ha rv
    have hn : its.length = ds.length := SeqAt.ReadsAll.length ds its as h4
    have hmap : its.map (SeqAt.readOf s0.heap) = ds := SeqAt.readsAll_map ds its as hxs h4
    obtain ⟨hjd, _⟩ := List.getElem?_eq_some_iff.mp hz
    have hj : j < its.toArray.size := by rw [List.size_toArray]; omega
    have what : ∀ (m : Nat) (hm : m < its.toArray.size) (z' : PyData), ds[m]? = some z' → SeqAt.readOf s0.heap its.toArray[m] = z' := by
      intro m hm z' hz'
      have hml : m < its.length := by simpa using hm
      rw [← hmap, List.getElem?_map, List.getElem?_eq_getElem hml] at hz'
      simpa using hz'
    refine call_meets PySem.F.slot_tuple_index ⟨_, ho, rfl⟩ PySem.F.entry_tuple_index (PySem.F.args_tuple_index_2 _ _)
      (TI.tuple_indexAt a its.toArray n dd sls uy (fun u => PyData.eqv (SeqAt.readOf s0.heap u) d) j hj ?_ ?_)
      ⟨ho, SeqAt.items_eqAt (vs := its.toArray) (show ReadsAll s0.heap its.toArray.toList ds as from h4) r1 hxs (SeqAt.canLay_of_shaped sd) (room_in_shaped sd hu), ⟨.int (j : Nat), H0, J.tok _, ⟨_, rfl⟩, q⟩⟩
    · show PyData.eqv (SeqAt.readOf s0.heap its.toArray[j]) d = true
      rw [what j hj z hz]; exact hzj
    · intro m hm hmj
      show PyData.eqv (SeqAt.readOf s0.heap its.toArray[m]) d = false
      rw [what m hm _ (List.getElem?_eq_getElem (by omega))]
      exact hno m _ hmj (List.getElem?_eq_getElem (by omega))
theorem bm_tail {X : Cx} {e : Expr} {te : TE} {cpos : Pos} {T id : String} {name : Str} {r : V → List V → Hp → VK → Prop} {pn : List (Addr × Obj)} {st : L2.St} {H1 : Hp} {s1 : Shared} {x : V} {v : Value} {Q : VK}
    (pa : PlainAttrs T) (slot : Slot T name id) (hty : typeOf (.builtin id) = pure (.type "method_descriptor")) (hm : MtR X id r) (he : PE X e te) (hs : ∀ env, starEach [e] env = [(false, eval e env)])
    (J1 : Inv X pn st H1 s1) (r1 : RelV x v) (t1 : s1.TypeIs v T) (t2 : ∀ a, v = .ref a → ∃ ob, s1.heap.get? a = some ob ∧ ob.dict = none) (q : te st H1 fun y H2 => r x [y] H2 Q) :
    MethodOn X.prog X.w X.A name cpos v (backTo cpos (starEach [e] X.env)) (EP X pn st Q) X.xe s1 := by
  refine ⟨T, id, pa, slot, hty, t1, t2, ?_⟩
  have hA := (pa_cons he pa_nil (hs := star1 e X.env (hs X.env))).run cpos pn s1 st H1 (fun ys H2 => r x ys H2 Q) J1 q
  rw [star1 e X.env (hs X.env)] at hA ⊢
  exact Calls.callWith_builtin rfl (Calls.evalArgs_plain (thn hA fun us s2 ⟨vs, H2, J2, r2, q2⟩ => hm pn s2 st H2 x vs v us Q J2 r1 r2 q2))
def tIndex (K : PySem.W.Frag) (ta tb : TE) : TE := fun σ H Q => ta σ H fun x H1 => ((∃ a xs, x = .ref a ∧ SqL K H1 a xs) ∧ tb σ H1 fun y H2 => rIndexD K x [y] H2 Q) ∨ ((∃ a xs, x = .ref a ∧ Tp K H1 a xs) ∧ tb σ H1 fun y H2 => rIndexT K x [y] H2 Q)
theorem pe_index {X : Cx} {o e : Expr} {to te : TE} {apos cpos : Pos} (hu : X.A.units + 65 < cLine) (ho : PE X o to) (he : PE X e te) (hs : ∀ env, starEach [e] env = [(false, eval e env)])
    (hbase : attributeBase o "index" X.env (eval o X.env) = eval o X.env) (hline : (apos.endLine == cpos.line) = true) : PE X (.Call (.Attribute o "index" apos) [e] [] cpos) (tIndex X.K to te) := by
  refine ⟨fun pn s0 st H0 Q J h => wpAny_Call_method_late hbase (by rw [hs]; rfl) hline rfl (thn (ho.run pn s0 st H0 _ J h) fun v s1 ⟨x, H1, J1, r1, q1⟩ => ?_)⟩
  rcases q1 with ⟨⟨a, xs, ex, hx⟩, q⟩ | ⟨⟨a, xs, ex, hx⟩, q⟩
  · obtain ⟨h1, h2⟩ := tyV_is (T := "list") J1 r1 (by subst ex; exact .inl ⟨rfl, xs, hx⟩)
    exact bm_tail PySem.F.plainAttrs_list PySem.F.slot_list_index PySem.F.type_list_index (mt_indexD hu) he hs J1 r1 h1 h2 q
  · obtain ⟨ob, hob, pl⟩ := hx.obj J1
    have ev : v = .ref a := by subst ex; cases r1; rfl
    refine bm_tail PySem.F.plainAttrs_tuple PySem.F.slot_tuple_index PySem.F.type_tuple_index (mt_indexT hu) he hs J1 r1 (by rw [ev]; exact ⟨ob, hob, pl.cls⟩) (fun b eb => ?_) q
    rw [ev] at eb; cases eb
    exact ⟨ob, hob, pl.dict⟩
def kd : D → Nat
  | .list _ => 1
  | .tuple _ => 2
  | _ => 0
def xidx (f1 f2 : Ex) : Ex := fun ρ => (stl f1 ρ).bind fun p => (look p.2 p.1).bind fun d0 => (stl f2 p.2).bind fun q => (look q.2 p.1).bind fun d => (look q.2 q.1).bind fun e => if kd d0 = kd d then (gIndex d e).map fun z => (z, q.2) else none
theorem gIndex_some {d e : D} {z : XV} (h : gIndex d e = some z) : ∃ ds j, (d = .list ds ∨ d = .tuple ds) ∧ PyData.depth (.list ds) ≤ 64 ∧ e.depth ≤ 64 ∧ (ds.findIdx? fun z => PyData.eqv z e) = some j ∧ z = .v (.int (j : Nat)) := by
  unfold gIndex at h
  split at h
  · split at h
    · rename_i ds hh
      obtain ⟨j, hj, e3⟩ := Option.map_eq_some_iff.mp h
      exact ⟨_, j, .inl rfl, hh.1, hh.2, hj, e3.symm⟩
    · cases h
  · split at h
    · rename_i ds hh
      obtain ⟨j, hj, e3⟩ := Option.map_eq_some_iff.mp h
      exact ⟨_, j, .inr rfl, hh.1, hh.2, hj, e3.symm⟩
    · cases h
  · cases h
theorem snd_idx {K : KK} {t1 t2 : TE} {f1 f2 : Ex} (s1 : SndE K t1 f1) (s2 : SndE K t2 f2) : SndE K (tIndex K t1 t2) (xidx f1 f2) := by
  intro ρ σ H F Q z ρ' G e q
  unfold xidx at e
  rw [Option.bind_eq_some_iff] at e
  obtain ⟨⟨x1, ρ1⟩, e1, e⟩ := e
  rw [Option.bind_eq_some_iff] at e
  obtain ⟨d0, h0, e⟩ := e
  rw [Option.bind_eq_some_iff] at e
  obtain ⟨⟨y1, ρ2⟩, e2, e⟩ := e
  rw [Option.bind_eq_some_iff] at e
  obtain ⟨d1, l1, e⟩ := e
  rw [Option.bind_eq_some_iff] at e
  obtain ⟨d2, l2, e⟩ := e
  split at e
  rotate_left
  · cases e
  rename_i hk
  rw [Option.map_eq_some_iff] at e
  obtain ⟨z', e3, e⟩ := e
  cases e
  obtain ⟨ds, j, hd, g1, g2, hj, ez⟩ := gIndex_some e3
  subst ez
  obtain ⟨w, hw, hwe, hno⟩ := findIdx_ok hj
  refine s1.stl ρ σ H F _ x1 ρ1 G e1 fun v1 H1 F1 G1 E1 r1 => ?_
  obtain ⟨y0, _, es⟩ := stl_some e1
  have rest : ∀ {P : V → Hp → Prop}, (∀ (v2 : V) (H2 F2 : Hp), Gd K ρ2 σ H2 F2 → Sub F1 F2 → Lk K F2 H2 v1 d1 → Lk K F2 H2 v2 d2 → (∀ u, Dq K F2 u (.int (j : Nat)) → Q u H2) → P v2 H2) → t2 σ H1 P := fun k =>
    s2.stl ρ1 σ H1 F1 _ y1 ρ2 G1 e2 fun v2 H2 F2 G2 E2 r2 => k v2 H2 F2 G2 E2.fz (look_ok G2 (r1.later E2 (look_fr es l1)) l1) (look_ok G2 r2 l2) fun u du => q u H2 F2 G2 (E1.trans E2) du
  have sh : ∀ {F2 H2 : Hp}, Lk K F2 H2 v1 d1 → SeqAt.shaped (.list ds) = true := fun {F2 H2} L => shaped_ok (by
    have := L.ok
    rcases hd with rfl | rfl
    · exact this
    · have t : okD (.tuple ds) = true := this
      unfold okD at t ⊢; exact t) g1
  have hl : ∃ ds0, d0 = .list ds0 ∧ d1 = .list ds ∨ d0 = .tuple ds0 ∧ d1 = .tuple ds := by
    rcases hd with rfl | rfl <;> cases d0 <;> simp [kd] at hk ⊢
  obtain ⟨ds0, ⟨rfl, rfl⟩ | ⟨rfl, rfl⟩⟩ := hl
  · obtain ⟨a0, vs, rfl, hH, hq0, _⟩ := (look_ok G1 r1 h0).lst G1.sub
    refine .inl ⟨⟨a0, vs, rfl, .inl (.inl hH)⟩, rest fun v2 H2 F2 G2 sF L1 L2 fin => ?_⟩
    exact ⟨a0, v2, d2, ds, j, w, rfl, rfl, dw_dp _ _ (L1.dp G2.sub), dw_dp _ _ (L2.dp G2.sub), sh L1, shaped_ok L2.ok g2, hw, hwe, hno, fin _ (Dq.int _)⟩
  · obtain ⟨a0, vs, rfl, hH, hq0, _, hdq⟩ := (look_ok G1 r1 h0).tupP G1.sub
    refine .inr ⟨⟨a0, vs, rfl, hH⟩, rest fun v2 H2 F2 G2 sF L1 L2 fin => ?_⟩
    · obtain ⟨a1, vs1, ea, ht, hq1, _⟩ := L1.tup G2.sub
      cases ea
      exact ⟨a0, vs1, v2, d2, ds, j, w, rfl, rfl, ht, Dqs.dpAll (hq1.sub G2.sub), dw_dp _ _ (L2.dp G2.sub), sh L1, shaped_ok L2.ok g2, hw, hwe, hno, fin _ (Dq.int _)⟩
section
variable {k : Nat} {c : Ctx} {a b : Expr} {f1 f2 : Ex} {pos ap : Pos}
theorem se_lidx (h1 : SE k c a f1) (h2 : SE k c b f2) (hs : ∀ env, starEach [b] env = [(false, eval b env)] := by intro _; rfl)
    (hbase : ∀ env : Env, attributeBase a "index" env (eval a env) = eval a env := by intro _; rfl)
    (hline : (ap.endLine == pos.line) = true := by rfl) : SE k c (.Call (.Attribute a "index" ap) [b] [] pos) (xidx f1 f2) := by
  obtain ⟨⟨t1, p1, s1⟩⟩ := h1
  obtain ⟨⟨t2, p2, s2⟩⟩ := h2
  refine ⟨tIndex c.g.K t1 t2, fun X hX => ?_, snd_idx s1 s2⟩
  have q1 := p1 X hX
  have q2 := p2 X hX
  have hu := units_of hX
  obtain ⟨⟨TT0, rfl⟩, _⟩ := hX
  exact pe_index (by omega) q1 q2 hs (hbase _) hline
end
abbrev veT : List Value := [.type "ValueError", .type "Exception", .type "BaseException", .type "object"]
structure ErAt (g : Gb) (n : Str) (C : Addr) : Prop where
  mg : g.mg n = some (.ref C)
  kp : PySem.W.keepIn g.K0 (.ref C) = true
  ex : PySem.W.excIn g.K0 C veT "ValueError.__new__" = true
  sub : PySem.W.subIn g.K0 (.ref C) (.type "BaseException") = some true
  ty : PySem.W.typeIn g.K0 (.ref C) = some (.type "type")
  dc : PySem.W.hasDictIn g.K0 C = true
  ec : ExcC g.K0 C
def Er (g : Gb) (n : Str) : Prop := ∃ C, ErAt g n C
inductive Rz where
  | ok (x : XV) (ρ : En)
  | ex (n : Str) (ρ : En)
abbrev Xx := En → Option Rz
def RzOk (g : Gb) (ρ : En) (σ : Sg) (H F : Hp) (Q : VK) (W : WX) : Rz → Prop
  | .ok x ρ' => ∀ v H' F', Gd g.K ρ' σ H' F' → Ext ρ σ H F ρ' σ H' F' → XR g.K H ρ' σ H' F' v x → Q v H'
  | .ex n ρ' => ∀ Cl H' F', g.mg n = some (.ref Cl) → Gd g.K ρ' σ H' F' → Ext ρ σ H F ρ' σ H' F' → W (.ref Cl) none σ H'
theorem RzOk.later {g : Gb} {ρ ρ1 : En} {σ : Sg} {H F H1 F1 : Hp} {Q : VK} {W : WX} {r : Rz} (E : Ext ρ σ H F ρ1 σ H1 F1) (h : RzOk g ρ σ H F Q W r) : RzOk g ρ1 σ H1 F1 Q W r := by
  cases r with
  | ok x ρ' => exact fun v H2 F2 G2 E2 r2 => h v H2 F2 G2 (E.trans E2) (r2.from E.dom)
  | ex n ρ' => exact fun Cl H2 F2 hm G2 E2 => h Cl H2 F2 hm G2 (E.trans E2)
def SndX (g : Gb) (t : WX → TE) (f : Xx) : Prop :=
  ∀ (ρ : En) (σ : Sg) (H F : Hp) (Q : VK) (W : WX) (r : Rz), Gd g.K ρ σ H F → f ρ = some r → RzOk g ρ σ H F Q W r → t W σ H Q
def xOk (f : Xx) : Ex := fun ρ => match f ρ with
  | some (.ok x ρ') => some (x, ρ')
  | _ => none
def sEx (f : Xx) : SEx := fun ρ => match f ρ with
  | some (.ex n ρ') => some (.ex n, ρ')
  | _ => none
theorem SndX.ok {g : Gb} {t : WX → TE} {f : Xx} (h : SndX g t f) (W : WX) : SndE g.K (t W) (xOk f) := by
  intro ρ σ H F Q x ρ' G e q
  unfold xOk at e
  split at e
  · rename_i x1 ρ1 h1
    cases e
    exact h ρ σ H F Q W _ G h1 q
  · cases e
theorem SndX.ext {g : Gb} {t : WX → TE} {f : Xx} (h : SndX g t f) {ρ ρ' : En} {σ : Sg} {H F : Hp} {W : WX} {D : Ends} {fl : Fl} (G : Gd g.K ρ σ H F) (e : sEx f ρ = some (fl, ρ')) (q : EndsOk g ρ σ H F D W ρ' fl) (Q : VK) : t W σ H Q := by
  unfold sEx at e
  split at e
  · rename_i n ρ1 h1
    cases e
    exact h ρ σ H F Q W _ G h1 fun Cl H' F' hm G' E' => q Cl σ H' F' hm G' E'
  · cases e
def sOr (g1 g2 : SEx) : SEx := fun ρ => (g1 ρ).or (g2 ρ)
theorem SndS.or {g : Gb} {t : WX → TS} {f1 f2 : SEx} (h1 : SndS g t f1) (h2 : SndS g t f2) : SndS g t (sOr f1 f2) := by
  intro ρ σ H F D W fl ρ' G e q
  unfold sOr at e
  cases h : f1 ρ with
  | some z => rw [h] at e; exact h1 ρ σ H F D W fl ρ' G (by rw [h]; exact e) q
  | none => rw [h] at e; exact h2 ρ σ H F D W fl ρ' G e q
theorem SndS.at {g : Gb} {t : WX → TS} {f : SEx} (h : ∀ W, SndS g (fun _ => t W) f) : SndS g t f := fun ρ σ H F D W fl ρ' G e q => h W ρ σ H F D W fl ρ' G e q
abbrev cold (c : Ctx) : Ctx := { c with calm := false, lam := none }
def SuX (k : Nat) (c : Ctx) (X : Cx) (n : Str) (a : Addr) : Prop :=
  ∃ (X0 : Cx) (oe : Obj) (pn : List (Addr × Obj)) (C : Addr), X = X0.suite a ((a, oe) :: pn) ∧ Fits k (cold c) X ∧ ErAt c.g n C ∧ Zc (.ref C) none oe ∧ ∃ vs, oe.data = .fields vs
structure HT (k : Nat) (c : Ctx) (i : Nat) (e : Expr) (f : Str → Tst) : Prop where
  ex : ∀ n, Er c.g n → ∃ t : Addr → TT, (∀ X a, SuX k c X n a → PT X e (t a)) ∧ ∀ (a : Addr) (ρ : En) (σ : Sg) (H F : Hp) (Q : Bool → Hp → Prop) (b : Bool) (ρ' : En), Gd c.g.K ρ σ H F → σ[i]? = some (some (.ref a)) → f n ρ = some (b, ρ') →
    (∀ H' F', Gd c.g.K ρ' σ H' F' → Ext ρ σ H F ρ' σ H' F' → Q b H') → t a σ H Q
structure HW (k : Nat) (c : Ctx) (i : Nat) (e : Expr) (f : Str → Tst) : Prop where
  ex : ∀ n, Er c.g n → ∃ t : Addr → TT, (∀ X a, SuX k c X n a → PW X e (t a)) ∧ ∀ (a : Addr) (ρ : En) (σ : Sg) (H F : Hp) (Q : Bool → Hp → Prop) (b : Bool) (ρ' : En), Gd c.g.K ρ σ H F → σ[i]? = some (some (.ref a)) → f n ρ = some (b, ρ') →
    (∀ H' F', Gd c.g.K ρ' σ H' F' → Ext ρ σ H F ρ' σ H' F' → Q b H') → t a σ H Q
section
variable {k : Nat} {c : Ctx} {i : Nat} {a b d e : Expr} {es : List Expr} {pos p p2 : Pos} {f1 f2 : Str → Ex} {g1 g2 : Str → Tst} {m : Str}
theorem HW.ht (h : HW k c i a g1) : HT k c i a g1 := by
  refine ⟨fun n hn => ?_⟩
  obtain ⟨t, p, s⟩ := h.ex n hn
  exact ⟨t, fun X a' hX => (p X a' hX).pt, s⟩
end
def EndsH (g : Gb) (ρ : En) (σ : Sg) (H F : Hp) (D : Ends) (ρ' : En) : Fl → Prop
  | .nx => ∀ H' F', Gd g.K ρ' σ H' F' → Ext ρ σ H F ρ' σ H' F' → D.nx σ H'
  | .bk => ∀ H' F', Gd g.K ρ' σ H' F' → Ext ρ σ H F ρ' σ H' F' → D.bk σ H'
  | .ct => ∀ H' F', Gd g.K ρ' σ H' F' → Ext ρ σ H F ρ' σ H' F' → D.ct σ H'
  | .rt (.v d) => ∀ v H' F', Gd g.K ρ' σ H' F' → Ext ρ σ H F ρ' σ H' F' → Dq g.K F' v d → D.rt v H'
  | _ => False
theorem EndsH.later {g : Gb} {ρ ρ1 ρ' : En} {σ : Sg} {H F H1 F1 : Hp} {D : Ends} {fl : Fl} (E : Ext ρ σ H F ρ1 σ H1 F1) (h : EndsH g ρ σ H F D ρ' fl) : EndsH g ρ1 σ H1 F1 D ρ' fl := by
  cases fl with
  | nx => exact fun H' F' G' E' => h H' F' G' (E.trans E')
  | bk => exact fun H' F' G' E' => h H' F' G' (E.trans E')
  | ct => exact fun H' F' G' E' => h H' F' G' (E.trans E')
  | rt x =>
    cases x with
    | v d => exact fun v H' F' G' E' r => h v H' F' G' (E.trans E') r
    | sl i => exact h
    | fr ct => exact h
  | ex n => exact h
section
variable {X : Cx} {pins : List (Addr × Obj)} {σ : L2.St} {H : Hp} {s : Shared} {a b : Addr} {y v : V} {u r : Value} {o : Option V} {A : Around} {E : Value → Shared → Prop} {kvs : List (List L2.Key × V)} {k : List L2.Key}
theorem tp_key (I : Inv X pins σ H s) (e : Tp X.K H b (k.map kV)) : (tupleKind (mixKind X.prog X.w)).is s.heap k b := by
  rcases e with ⟨o, e, c⟩ | ⟨o, its, n, e, c, hd, _, hv⟩
  · obtain ⟨h1, _, its, hv, o2, h3, h4, n, h5⟩ := I.hok b _ e
    exact ⟨o2, its.toArray, n, h3, h4, h5, by simpa using items_are hv⟩
  · exact ⟨o, its, n, I.kIn b o e, c.cls, hd, items_are hv⟩
theorem KX.all {xs : List (List L2.Key × Addr × Value)} (I : Inv X pins σ H s) (q : KX X.K H kvs xs) : ∀ x ∈ xs, (tupleKind (mixKind X.prog X.w)).is s.heap x.1 x.2.1 := by
  induction q with
  | nil => intro x hx; exact nomatch hx
  | @cons p q ps qs hq t ih =>
    intro x hx
    rcases List.mem_cons.mp hx with e | hx
    · subst e
      exact tp_key I (by rw [← hq.1]; exact hq.2.1)
    · exact ih x hx
theorem KX.val {K : PySem.W.Frag} {xs : List (List L2.Key × Addr × Value)} (q : KX K H kvs xs) (k : List L2.Key) : RelO (valV kvs k) ((atKey xs k).map (·.2)) := by
  induction q with
  | nil => exact True.intro
  | @cons p q ps qs hq t ih =>
    by_cases e : p.1 = k
    · rw [valV_pos e]
      have e2 : q.1 = k := hq.1.symm.trans e
      have : atKey (q :: qs) k = some q.2 := by simp [atKey, List.find?_cons, e2]
      rw [this]
      exact hq.2.2
    · rw [valV_neg e]
      have e2 : ¬ q.1 = k := fun z => e (hq.1.trans z)
      have : atKey (q :: qs) k = atKey qs k := by simp [atKey, List.find?_cons, e2]
      rw [this]
      exact ih
theorem KX.mono {K : PySem.W.Frag} {H H' : Hp} {xs : List (List L2.Key × Addr × Value)} (q : KX K H kvs xs) (e : ∀ c zs, Tp K H c zs → Tp K H' c zs) : KX K H' kvs xs :=
  Paired.mapR q fun p q z => ⟨z.1, e _ _ z.2.1, z.2.2⟩
theorem KX.repl {K : PySem.W.Frag} {xs : List (List L2.Key × Addr × Value)} (q : KX K H kvs xs) (k : List L2.Key) (rv : RelV v r) :
    KX K H (kvs.map fun kv => if kv.1 = k then (kv.1, v) else kv) (xs.map (putAt k r)) := by
  induction q with
  | nil => exact .nil
  | @cons p q ps qs hq t ih =>
    rw [List.map_cons, List.map_cons]
    refine .cons ?_ ih
    unfold putAt
    by_cases e : p.1 = k
    · have e2 : q.1 = k := hq.1.symm.trans e
      rw [if_pos e, if_pos e2]
      exact ⟨hq.1, hq.2.1, rv⟩
    · have e2 : ¬ q.1 = k := fun z => e (hq.1.trans z)
      rw [if_neg e, if_neg e2]
      exact hq
theorem KX.snoc {K : PySem.W.Frag} {xs : List (List L2.Key × Addr × Value)} {p : List L2.Key × V} {z : List L2.Key × Addr × Value} (q : KX K H kvs xs) (h : p.1 = z.1 ∧ Tp K H z.2.1 (p.1.map kV) ∧ RelV p.2 z.2.2) : KX K H (kvs ++ [p]) (xs ++ [z]) := by
  induction q with
  | nil => exact .cons h .nil
  | cons hq _ ih => exact .cons hq ih
theorem KX.put {K : PySem.W.Frag} {xs : List (List L2.Key × Addr × Value)} (q : KX K H kvs xs) (hb : Tp K H b (k.map kV)) (rv : RelV v r) : KX K H (putK kvs k v) (storedH xs k b r) := by
  have hv := (q.val k).isSome_eq
  rw [Option.isSome_map] at hv
  unfold putK storedH
  rw [valV_any, hv]
  split
  · exact q.repl k rv
  · exact q.snoc ⟨rfl, hb, rv⟩
end
def dKey1 : D → Option L2.Key
  | .int i => some (.inl i)
  | .str x => some (.inr x)
  | _ => none
def dKeys : List D → Option (List L2.Key)
  | [] => some []
  | d :: ds => (dKey1 d).bind fun k => (dKeys ds).map (k :: ·)
def dKey : D → Option (List L2.Key)
  | .tuple ds => dKeys ds
  | _ => none
theorem dKey1_kD (k : L2.Key) : dKey1 (kD k) = some k := by cases k <;> rfl
theorem dKeys_kD : ∀ ks : List L2.Key, dKeys (ks.map kD) = some ks
  | [] => rfl
  | k :: ks => by rw [List.map_cons]; unfold dKeys; rw [dKey1_kD, dKeys_kD ks]; rfl
theorem dKey_kD (ks : List L2.Key) : dKey (.tuple (ks.map kD)) = some ks := dKeys_kD ks
def valD (kvs : List (D × D)) (k : List L2.Key) : Option D := (kvs.find? fun q => decide (dKey q.1 = some k)).map (·.2)
def putE (kvs : List (D × D)) (k : List L2.Key) (d : D) : List (D × D) := if (valD kvs k).isSome = true then kvs.map fun q => if dKey q.1 = some k then (q.1, d) else q else kvs ++ [(.tuple (k.map kD), d)]
abbrev Prs (K : KK) (F : Hp) (kk : List (List L2.Key × V)) (kvs : List (D × D)) : Prop := Paired (fun (p : List L2.Key × V) (q : D × D) => q.1 = .tuple (p.1.map kD) ∧ Dq K F p.2 q.2) kk kvs
section
variable {K : KK} {F : Hp} {kk : List (List L2.Key × V)} {kvs : List (D × D)}
theorem Prs.val (h : Prs K F kk kvs) (k : List L2.Key) : (valV kk k = none ∧ valD kvs k = none) ∨ ∃ v d, valV kk k = some v ∧ valD kvs k = some d ∧ Dq K F v d := by
  induction h with
  | nil => exact .inl ⟨rfl, rfl⟩
  | @cons p q ps qs hq _ ih =>
    have e0 : dKey q.1 = some p.1 := by rw [hq.1]; exact dKey_kD _
    by_cases e : p.1 = k
    · refine .inr ⟨p.2, q.2, valV_pos e, ?_, hq.2⟩
      unfold valD
      rw [List.find?_cons, e0, e]; simp
    · rw [valV_neg e]
      have : valD (q :: qs) k = valD qs k := by
        unfold valD
        rw [List.find?_cons, e0]
        have : decide (some p.1 = some k) = false := decide_eq_false fun z => e (Option.some.inj z)
        rw [this]
      rw [this]
      exact ih
theorem Prs.snoc {p : List L2.Key × V} {q : D × D} (h : Prs K F kk kvs) (e : q.1 = .tuple (p.1.map kD) ∧ Dq K F p.2 q.2) : Prs K F (kk ++ [p]) (kvs ++ [q]) := by
  induction h with
  | nil => exact .cons e .nil
  | cons hq _ ih => exact .cons hq ih
theorem Prs.put (h : Prs K F kk kvs) {k : List L2.Key} {v : V} {d : D} (hv : Dq K F v d) : Prs K F (putK kk k v) (putE kvs k d) := by
  have hs : (valV kk k).isSome = (valD kvs k).isSome := by
    rcases h.val k with ⟨h1, h2⟩ | ⟨v, d, h1, h2, _⟩ <;> rw [h1, h2] <;> rfl
  unfold putK putE
  rw [valV_any, hs]
  split
  · clear hs
    rename_i hc
    clear hc
    induction h with
    | nil => exact .nil
    | @cons p q ps qs hq _ ih =>
      have e0 : dKey q.1 = some p.1 := by rw [hq.1]; exact dKey_kD _
      rw [List.map_cons, List.map_cons]
      refine .cons ?_ ih
      by_cases e : p.1 = k
      · rw [if_pos e, if_pos (by rw [e0, e])]
        exact ⟨hq.1, hv⟩
      · rw [if_neg e, if_neg (by rw [e0]; exact fun z => e (Option.some.inj z))]
        exact hq
  · exact h.snoc ⟨rfl, hv⟩
theorem Prs.length (h : Prs K F kk kvs) : kk.length = kvs.length := Paired.length h
end
def hm : Option Sl → Option (List (D × D))
  | some (.o _ (.m kvs)) => some kvs
  | some (.k _ (.m kvs)) => some kvs
  | _ => none
def vK : XV → Option (List L2.Key)
  | .v d => dKey d
  | _ => none
theorem DX.sub {K : KK} {F H : Hp} {a : Addr} {kk : List (List L2.Key × V)} (s : Sub F H) (h : DX K.F K.P K.w F H a kk) : DX K.F K.P K.w H H a kk := by
  obtain ⟨xs, h1, h2⟩ := h
  exact ⟨xs, h1, h2.mono fun c zs t => Tp.mono s t⟩
def xXGet (i : Nat) (f : Ex) : Ex := fun ρ => (hm ρ[i]?).bind fun _ => (f ρ).bind fun p => (hm p.2[i]?).bind fun kvs => (vK p.1).bind fun k => (valD kvs k).map fun e => (.v e, p.2)
def tsXIn (n : Bool) (i : Nat) (f : Ex) : Tst := fun ρ => (f ρ).bind fun p => (hm p.2[i]?).bind fun kvs => (vK p.1).map fun k => ((if n then !(valD kvs k).isSome else (valD kvs k).isSome), p.2)
def sXPut (i : Nat) (f1 f2 : Ex) : SEx := fun ρ => (stl f2 ρ).bind fun p => (hm p.2[i]?).bind fun _ => (f1 p.2).bind fun q => (vK q.1).bind fun k => match p.1, q.2[i]? with
  | .v d, some (.o b (.m kvs)) => if kvs.length < sizeLine then some (.nx, q.2.set i (.o b (.m (putE kvs k d)))) else none
  | _, _ => none
section
variable {k : Nat} {c : Ctx} {C : Calls} {a e : Expr} {es : List Expr} {f : Ex} {fs : AEx} {pos p : Pos} {x : Str}
theorem AR.snoc {K : KK} {H0 H H1 F : Hp} {ρ ρ1 : En} {σ σ1 : Sg} {p : Addr} {n : Nat} (hp : σ1[n]? = some (some (.ref p))) : ∀ {vs : List V} {xs : List XV}, AR K H0 ρ σ H F vs xs → slIx xs = [] → (∀ x ∈ xs, ∀ ct, x ≠ .fr ct) → AR K H0 ρ1 σ1 H1 F (vs ++ [.ref p]) (xs ++ [.sl n])
  | [], [], _, _, _ => ⟨hp, True.intro⟩
  | v :: vs, .v d :: xs, r, h, z => ⟨r.1, AR.snoc hp r.2 h fun x hx => z x (List.mem_cons_of_mem _ hx)⟩
  | v :: vs, .sl i :: xs, r, h, z => by cases h
  | v :: vs, .fr d :: xs, r, h, z => absurd rfl (z _ (List.mem_cons_self ..) d)
  | [], _ :: _, r, _, _ => r.elim
  | _ :: _, [], r, _, _ => r.elim
end
section
variable {K : PySem.W.Frag} {H H' : Hp}
theorem sqL_extN (s : LamX.ExtN H H') {a : Addr} {xs : List V} (h : SqL K H a xs) : SqL K H' a xs := by
  rcases h with (h | ⟨o, h⟩) | h
  · exact .inl (.inl (s _ _ h (nt_lst _)))
  · exact .inl (.inr ⟨o, s _ _ h (nt_frz _ _)⟩)
  · exact .inr h
theorem sqT_extN (s : LamX.ExtN H H') {a : Addr} {xs : List V} (h : SqT K H a xs) : SqT K H' a xs := by
  rcases h with (h | ⟨o, h⟩) | h
  · exact .inl (.inl (s _ _ h (nt_tup _)))
  · exact .inl (.inr ⟨o, s _ _ h (nt_frz _ _)⟩)
  · exact .inr h
structure KeyArg (K : PySem.W.Frag) (H : Hp) (l : Addr) (xs : List V) (ns : List Nat) : Prop where
  lst : SqL K H l xs
  len : ∀ (i : Nat) (v : V), xs[i]? = some v → ∃ a ys, v = .ref a ∧ SqT K H a ys ∧ ns[i]? = some ys.length
theorem KeyArg.ext {l : Addr} {xs : List V} {ns : List Nat} (h : KeyArg K H l xs ns) (s : LamX.ExtN H H') : KeyArg K H' l xs ns :=
  ⟨sqL_extN s h.lst, fun i v e => by
    obtain ⟨a, ys, h1, h2, h3⟩ := h.len i v e
    exact ⟨a, ys, h1, sqT_extN s h2, h3⟩⟩
end
structure TbX (T : List (Addr × Str)) (H H2 : Hp) : Prop where
  ex : LamX.ExtN H H2
  dom : ∀ a, H a ≠ none → H2 a ≠ none
  tb : LamX.Tabs T H2
section
variable {K : KK} {ρ : En} {σ : Sg} {H F H' : Hp}
theorem Gd.tabs (G : Gd K ρ σ H F) (t : TbX K.T H H') : Gd K ρ σ H' F ∧ Ext ρ σ H F ρ σ H' F := by
  refine ⟨⟨G.len, fun a o e => t.ex a o (G.sub a o e) (G.tab.2 a o e), G.val, G.scr, fun i b c e => ?_, G.inj, t.tb, G.tab.2⟩,
    ⟨Sub.refl F, fun a o h n _ => ⟨t.ex a o h n, fun z => z⟩, t.dom, fun _ h => .inl h, fun _ c h => ⟨⟨c, h⟩, rfl⟩, fun _ _ _ h => ⟨h, rfl⟩, fun _ _ _ h => h, fun _ c h => ⟨c, h⟩⟩⟩
  obtain ⟨a, h1, h2, h3⟩ := G.opn i b c e
  exact ⟨a, h1, h2, h3.mono (Sub.refl F) fun u z => t.ex a u z (h3.nt z)⟩
end
def hdB (vs : Array Value) (c P : Addr) : Bool := (match (vs[11]? : Option Value) with | some (.ref p) => p == P | _ => false) && (match vs.getD 18 .none with | .str _ _ => true | _ => false) && (match vs.getD 7 .none with | .int _ _ => true | _ => false) &&
  (match vs.getD 9 .none with | .bool _ => true | _ => false) && (match vs.getD 10 .none with | .int _ _ => true | _ => false) && c != P
theorem hd_of {K : PySem.W.Frag} {c P : Addr} {cdd : Option Addr} {cvs : Array Value} {csl : Array (Option Value)} (w : K.lookup c = some ⟨.type "code", cdd, .fields cvs, csl⟩) (h : hdB cvs c P = true) : PySem.W.codeHdIn K c P = true := by
  unfold PySem.W.codeHdIn
  rw [w]
  exact h
theorem law_at {l : PySem.W.OpenLaw} {w : World} {K : PySem.W.Frag} {mg : Str → Option Value} {h : Heap} {fa c P : Addr} {q : Str} {fd : FuncData}
    (X : K.In h) (emp : h.get? P = some { cls := .none, data := .fields #[] }) (hhd : PySem.W.codeHdIn K c P = true) (hno : K.lookup P = none)
    (hb : ∀ (s : Shared) (v : Value), BindsTo s fd ⟨[v], []⟩ [(Str.ofString "script", v)])
    (F : ∀ base : Heap, K.In base → base.Ns mainGlobals mg → LamX.TabB base mg c P → FnOk l.prog w K mg base (L2.CX l.prog w) 200 fa fd [Str.ofString "script"] (spLawT [(P, q)] K)) :
    LamX.LawAtS l w K (L2.CX l.prog w) 200 63 (Str.ofString "script") mg fa h := by
  refine ⟨fd, [(c, P)], spLawT [(P, q)] K, fun p hp => ?_, fun p hp => ?_, fun p hp => ?_, hb, fun H a ns hl _ hH hS => ⟨fun p hp => ?_, a, ns, rfl, hS, hl, fun _ => rfl⟩, fun base b1 b2 b3 => F base b1 b2 (b3 _ List.mem_cons_self)⟩
  · rw [List.mem_singleton] at hp; subst hp; exact emp
  · rw [List.mem_singleton] at hp; subst hp; exact hno
  · rw [List.mem_singleton] at hp; subst hp; exact PySem.W.codeHd_of_K X hhd
  · rw [List.mem_singleton] at hp; subst hp; exact LamX.TabS.nil (hH (c, P) List.mem_cons_self)
def valN (kvs : List (Int × D)) (i : Int) : Option D := (kvs.find? fun q => decide (q.1 = i)).map (·.2)
def putN (kvs : List (Int × D)) (i : Int) (d : D) : List (Int × D) := if (valN kvs i).isSome = true then kvs.map fun q => if q.1 = i then (q.1, d) else q else kvs ++ [(i, d)]
abbrev Nrs (K : KK) (F : Hp) (kk : List (L2.Key × V)) (kvs : List (Int × D)) : Prop := Paired (fun (p : L2.Key × V) (q : Int × D) => p.1 = .inl q.1 ∧ Dq K F p.2 q.2) kk kvs
theorem inl_eq {a b : Int} : ((Sum.inl a : L2.Key) = .inl b) = (a = b) := propext ⟨fun z => by injection z, fun z => by rw [z]⟩
section
variable {K : KK} {F : Hp} {kk : List (L2.Key × V)} {kvs : List (Int × D)}
theorem Nrs.val (h : Nrs K F kk kvs) (i : Int) : (valV kk (.inl i) = none ∧ valN kvs i = none) ∨ ∃ v d, valV kk (.inl i) = some v ∧ valN kvs i = some d ∧ Dq K F v d := by
  induction h with
  | nil => exact .inl ⟨rfl, rfl⟩
  | @cons p q ps qs hq _ ih =>
    by_cases e : q.1 = i
    · refine .inr ⟨p.2, q.2, valV_pos (by rw [hq.1, e]), ?_, hq.2⟩
      unfold valN
      rw [List.find?_cons, decide_eq_true e]; rfl
    · rw [valV_neg (by rw [hq.1, inl_eq]; exact e)]
      have : valN (q :: qs) i = valN qs i := by
        unfold valN
        rw [List.find?_cons, decide_eq_false e]
      rw [this]
      exact ih
theorem Nrs.snoc {p : L2.Key × V} {q : Int × D} (h : Nrs K F kk kvs) (e : p.1 = .inl q.1 ∧ Dq K F p.2 q.2) : Nrs K F (kk ++ [p]) (kvs ++ [q]) := by
  induction h with
  | nil => exact .cons e .nil
  | cons hq _ ih => exact .cons hq ih
theorem Nrs.put (h : Nrs K F kk kvs) {i : Int} {v : V} {d : D} (hv : Dq K F v d) : Nrs K F (putK kk (.inl i) v) (putN kvs i d) := by
  have hs : (valV kk (.inl i)).isSome = (valN kvs i).isSome := by
    rcases h.val i with ⟨h1, h2⟩ | ⟨v, d, h1, h2, _⟩ <;> rw [h1, h2] <;> rfl
  unfold putK putN
  rw [valV_any, hs]
  split
  · clear hs
    rename_i hc
    clear hc
    induction h with
    | nil => exact .nil
    | @cons p q ps qs hq _ ih =>
      rw [List.map_cons, List.map_cons]
      refine .cons ?_ ih
      by_cases e : q.1 = i
      · rw [if_pos e, if_pos (by rw [hq.1, e])]
        exact ⟨hq.1, hv⟩
      · rw [if_neg e, if_neg (by rw [hq.1, inl_eq]; exact e)]
        exact hq
  · exact h.snoc ⟨rfl, hv⟩
theorem Nrs.length (h : Nrs K F kk kvs) : kk.length = kvs.length := Paired.length h
end
structure LamP (N : List Str) (sc scope : Scope) (params : Arguments) (y : Str) (iy : Nat) : Prop where
  kind : scope.kind = .function
  co : scope.isCoroutine = false
  gen : scope.isGenerator = false
  uniq : ∀ z ∈ scope.names, scope.names.lookup z.1 = some z.2
  par : scope.names.lookup y = some .local ∨ scope.names.lookup y = some .cell
  own : ∀ z ∈ scope.names, z.2 = .local ∨ z.2 = .cell → z.1 = y
  free : ∀ z ∈ scope.names, z.2 = .free → sc.names.lookup z.1 = some .cell ∨ sc.names.lookup z.1 = some .free
  ix : N[iy]? = some y
  bind : ∀ (q : Str) (body : Expr) (cl : List (Str × Addr)) (pm cdv ctv v : Value), bindArgs (PySem.W.kla_fn "<lambda>" q params body scope cl pm cdv ctv) ⟨[v], []⟩ = pure [(y, v)]
abbrev lamCl (X : Cx) (scope : Scope) (L : Addr) : List (Str × Addr) := cellsFrom (L + 1) scope.names (cloFrom X.env.cells scope.names [])
abbrev lamEv (X : Cx) (q : Str) (scope : Scope) (L f c' : Addr) : Env := newEnv scope L mainGlobals (lamCl X scope L) (q ++ ".<locals>.") (some f) (.ref c') none builtinsNs
def lamX (X : Cx) (A : Around) (q : Str) (s : Shared) (H : Hp) (scope : Scope) (f c' : Addr) : Cx where
  prog := X.prog
  w := X.w
  K := X.K
  mg := X.mg
  base := X.base
  A := A.deeper (lamEv X q scope s.heap.objs.size f c')
  N := X.N
  s_0 := s
  H_0 := H
  env := lamEv X q scope s.heap.objs.size f c'
  outer := X.stack
  stack := lamEv X q scope s.heap.objs.size f c' :: X.stack
  ex := []
  fn := fun x => scope.names.lookup x == some .cell
  calm := true
  pn := []
  xe := fun _ _ => False
section
variable {X : Cx} {pins : List (Addr × Obj)} {σ : L2.St} {H : Hp} {s : Shared} {A : Around} {q y : Str} {iy : Nat} {scope : Scope} {params : Arguments} {f c' : Addr}
theorem LamP.hasF (L : LamP X.N X.env.scope scope params y iy) (ok : X.Ok) : ∀ z ∈ scope.names, z.2 = .free → ∃ c, X.env.cells.lookup z.1 = some c := fun z hz e => by
  rcases L.free z hz e with k | k
  · exact ok.has _ (.inl k)
  · exact ok.has _ (.inr k)
theorem lamX_start (I : Inv X pins σ H s) (L : LamP X.N X.env.scope scope params y iy) (hN : X.N.Nodup) (hfr : A.frames = some X.stack) (hd : A.handled = none) :
    Inv (lamX X A q s H scope f c') [] (L2.wipe σ [iy]) H { s with heap := pushCells (s.heap.push { cls := .type "frame", data := .dict #[] }) scope.names } := by
  have hfree := L.hasF I.ok
  have kp : ∀ b o, s.heap.get? b = some o → (pushCells (s.heap.push { cls := .type "frame", data := .dict #[] }) scope.names).get? b = some o := fun b o e => pushCells_keeps _ _ _ _ (Heap.get?_push_of_some _ e)
  have szp : (s.heap.push { cls := .type "frame", data := .dict #[] }).objs.size = s.heap.objs.size + 1 := Heap.size_push ..
  have clm : ∀ {z c}, (z, c) ∈ cloFrom X.env.cells scope.names [] → X.env.cells.lookup z = some c ∧ c < s.heap.objs.size := fun {z c} hm => by
    rcases cloFrom_mem hm with hm | ⟨h1, rfl⟩
    · cases hm
    · obtain ⟨c, hc⟩ := hfree _ h1 rfl
      rw [hc]
      obtain ⟨w, hw⟩ := I.cell _ _ hc
      exact ⟨rfl, hw.lt⟩
  have eCl : lamCl X scope s.heap.objs.size = cellsFrom (s.heap.push { cls := .type "frame", data := .dict #[] }).objs.size scope.names (cloFrom X.env.cells scope.names []) := by rw [szp]
  have which : ∀ {z c}, (lamCl X scope s.heap.objs.size).lookup z = some c → (X.env.cells.lookup z = some c ∧ c < s.heap.objs.size) ∨ ((z, NameKind.cell) ∈ scope.names ∧ s.heap.objs.size + 1 ≤ c ∧ CellAt (pushCells (s.heap.push { cls := .type "frame", data := .dict #[] }) scope.names) c none) := fun {z c} e => by
    rw [eCl] at e
    rcases cells_mem (PySem.mem_of_lookup e) with hm | ⟨h1, h2, h3⟩
    · exact .inl (clm hm)
    · rw [szp] at h2; exact .inr ⟨h1, h2, h3⟩
  have capt : ∀ {z}, scope.names.lookup z = some .free → ∃ c, (lamCl X scope s.heap.objs.size).lookup z = some c ∧ X.env.cells.lookup z = some c := fun {z} hl => by
    have hz : (z, NameKind.free) ∈ scope.names := PySem.mem_of_lookup hl
    obtain ⟨c1, e1⟩ := mem_lookup (cells_acc (names := scope.names) (n := s.heap.objs.size + 1) (cloFrom_has (cells := X.env.cells) (acc := []) hz))
    refine ⟨c1, e1, ?_⟩
    have e2 := e1
    rw [← szp] at e2
    rcases cells_mem (PySem.mem_of_lookup e2) with hm | ⟨h1, _, _⟩
    · exact (clm hm).1
    · have := L.uniq _ h1
      rw [hl] at this; cases this
  have noA : ∀ b : Addr, b ∉ (lamX X A q s H scope f c').ex := fun b z => absurd (show b ∈ ([] : List Addr) from z) (by simp)
  refine ⟨⟨I.ok.mod, L.kind, rfl, rfl, Nat.le_refl _, fun z z2 c e1 e2 => ?_, fun z hz => ?_, fun z c hf e => ?_, fun _ => hd, Around.frames_deeper hfr, .inr ⟨rfl, rfl⟩, fun b z => absurd z (noA b), I.bs, Nat.le_trans I.ok.bsz I.sz, fun b _ _ => noA b,
      fun b z => absurd z (noA b), I.stack, I.stkFree⟩,
    rfl, I.bare, Un.kept kp, ⟨fun _ => none, ?_, fun i z v e1 e2 e3 => ?_⟩, fun z c e => ?_, I.hok.fresh (Nat.le_refl _), fun z c e => ?_, fun p hp => absurd (show p ∈ ([] : List (Addr × Obj)) ++ [] from hp) (by simp), I.hok.kept kp, by rw [wipe_length]; exact I.len⟩
  · have e1 : (lamCl X scope s.heap.objs.size).lookup z = some c := e1
    have e2 : (lamCl X scope s.heap.objs.size).lookup z2 = some c := e2
    rw [eCl] at e1 e2
    refine cells_inj (fun p hp => ?_) (fun y z c a b => I.ok.inj y z c (clm a).1 (clm b).1) (PySem.mem_of_lookup e1) (PySem.mem_of_lookup e2)
    rw [szp]
    exact Nat.lt_succ_of_lt (clm (z := p.1) (c := p.2) hp).2
  · have hz : scope.names.lookup z = some .cell ∨ scope.names.lookup z = some .free := hz
    rcases hz with hz | hz
    · obtain ⟨c, hm⟩ := cells_has (n := s.heap.objs.size + 1) (acc := cloFrom X.env.cells scope.names []) (PySem.mem_of_lookup hz)
      exact mem_lookup hm
    · obtain ⟨c, h1, _⟩ := capt hz
      exact ⟨c, h1⟩
  · have hf : (scope.names.lookup z == some NameKind.cell) = true := hf
    have hf : scope.names.lookup z = some .cell := by simpa using hf
    have e : (lamCl X scope s.heap.objs.size).lookup z = some c := e
    rw [eCl] at e
    rcases cells_mem (PySem.mem_of_lookup e) with hm | ⟨_, h2, _⟩
    · rcases cloFrom_mem hm with hm | ⟨h1, _⟩
      · cases hm
      · have q := L.uniq _ h1
        rw [hf] at q; cases q
    · rw [szp] at h2
      exact Nat.le_of_succ_le h2
  · exact Heap.Ns.keeps (Heap.Ns.new ..) fun b o e => pushCells_keeps _ _ _ _ e
  · obtain ⟨e2, hne⟩ := wipe_some e2
    have e3 : Vis scope z := e3
    have hz : scope.names.lookup z = some .free := by
      rcases e3 with k | k | k
      · have := L.own _ (PySem.mem_of_lookup k) (.inl rfl)
        exact absurd (nodup_ix hN e1 (by have h := L.ix; rw [← this] at h; exact h)) (fun h => hne (by rw [h]; simp))
      · have := L.own _ (PySem.mem_of_lookup k) (.inr rfl)
        exact absurd (nodup_ix hN e1 (by have h := L.ix; rw [← this] at h; exact h)) (fun h => hne (by rw [h]; simp))
      · exact k
    obtain ⟨m, hn, hl⟩ := I.loc
    have hvis : Vis X.env.scope z := (L.free _ (PySem.mem_of_lookup hz) rfl).elim (fun k => .inr (.inl k)) (fun k => .inr (.inr k))
    obtain ⟨w', r, q⟩ := hl i z v e1 e2 hvis
    obtain ⟨c2, h1, h2⟩ := capt hz
    refine ⟨w', r, .inr ⟨.inr hz, c2, h1, ?_⟩⟩
    rcases q with ⟨k, _⟩ | ⟨_, c3, e', hc⟩
    · have k : X.env.scope.names.lookup z = some .local := k
      rcases L.free _ (PySem.mem_of_lookup hz) rfl with k2 | k2 <;> rw [show X.env.scope.names.lookup z = _ from k2] at k <;> cases k
    · rw [h2] at e'
      cases e'
      exact hc.keeps kp
  · have e : (lamCl X scope s.heap.objs.size).lookup z = some c := e
    rcases which e with ⟨h1, _⟩ | ⟨_, _, h3⟩
    · obtain ⟨w', hc⟩ := I.cell z c h1
      exact ⟨w', hc.keeps kp⟩
    · exact ⟨_, h3⟩
  · have e : (lamCl X scope s.heap.objs.size).lookup z = some c := e
    rcases which e with ⟨h1, _⟩ | ⟨_, h2, _⟩
    · exact I.freeC z c h1
    · exact I.hok.fresh (Nat.le_of_succ_le h2)
theorem newEnv_one {M : Model} {A : Around} {E : Value → Shared → Prop} {s : Shared} {scope : Scope} {globals : Addr} {closure : List (Str × Addr)} {y : Str} {v : Value} {qual : Str} {func : Option Addr} {code : Value} {builtins : Addr} {Q : Env → Shared → Prop}
    (h : wpAny M A (storeName (newEnv scope s.heap.objs.size globals (cellsFrom (s.heap.objs.size + 1) scope.names closure) qual func code none builtins) y v) (fun _ s' => Q (newEnv scope s.heap.objs.size globals (cellsFrom (s.heap.objs.size + 1) scope.names closure) qual func code none builtins) s') E
      { s with heap := pushCells (s.heap.push { cls := .type "frame", data := .dict #[] }) scope.names }) :
    wpAny M A (newFunctionEnv scope globals closure [(y, v)] qual func code none builtins) Q E s := by
  simp only [newFunctionEnv, Option.isSome_none, Bool.false_eq_true, if_false]
  refine wpAny_bind (wpAny_alloc ?_)
  refine wpAny_bind (wpAny_layCells _ (fun n k c => by cases hk : k == NameKind.cell <;> simp [hk]) scope.names closure _ _ ?_)
  rw [show ({ s with heap := s.heap.push { cls := .type "frame", data := .dict #[] } } : Shared).heap.objs.size = s.heap.objs.size + 1 from Heap.size_push ..]
  rw [List.forIn_cons]
  refine wpAny_bind (wpAny_bind (wpAny_bind (wpAny_mono h (fun _ s' hq => wpAny_pure ?_) fun _ _ z => z)))
  dsimp only
  rw [List.forIn_nil]
  exact wpAny_pure (wpAny_pure hq)
theorem lamX_run {body : Expr} {pm ctv : Value} {t : TE} {v : V} {u : Value} {Q : VK} {E : Value → Shared → Prop} (I : Inv X pins σ H s) (L : LamP X.N X.env.scope scope params y iy) (hN : X.N.Nodup) (hfr : A.frames = some X.stack) (hd : A.handled = none) (hdp : A.depth < recursionLimit)
    (ho : s.heap.get? f = some (PySem.W.kla_obj "<lambda>" q params body scope (cloFrom X.env.cells scope.names []) pm c' ctv)) (hc : H c' = some (LamX.CodeO c' q)) (r : RelV v u)
    (hb : PE (lamX X A q s H scope f c') body t) (ht : t (σ.set iy (some v)) H Q) :
    wpAny (model X.prog X.w) A (call (.ref f) [u]) (EP X pins σ Q) E s := by
  have hiN := (List.getElem?_eq_some_iff.mp L.ix).1
  have hiσ : iy < σ.length := by rw [I.len]; exact hiN
  obtain ⟨⟨oc, vs, tt, e1, e2, e3⟩, _⟩ := I.hok c' _ hc
  refine wpAny_call ?_
  refine PySem.W.kla_callFunE hdp ho rfl L.co L.gen rfl ⟨c', oc, vs, tt, rfl, e1, e2, e3⟩ ?_
  rw [L.bind]
  refine wpAny_pure (newEnv_one ?_)
  have J := lamX_start (A := A) (q := q) (f := f) (c' := c') I L hN hfr hd
  refine store_ok (X := lamX X A q s H scope f c') (i := iy) J hN L.ix L.par r (fun s' J' => ?_) (by rcases L.par with k | k; exact .inr k; exact .inl (by show (scope.names.lookup y == some NameKind.cell) = true; rw [k]; rfl))
  have eσ : (L2.wipe σ [iy]).set iy (some v) = σ.set iy (some v) := by
    show (σ.set iy none).set iy (some v) = _
    rw [List.set_set]
  rw [eσ] at J'
  refine ⟨J'.nolimit, PySem.W.kla_codeExpr (wpAny_mono (hb.run [] s' _ H Q J' ht) (fun w s2 hq => ?_) fun e s2 hq => hq.elim)⟩
  obtain ⟨x, H', J2, rx, q2⟩ := hq
  exact I.after ⟨x, H', J2.os, J2.bare, J2.base, J2.hok, rx, q2⟩
end
theorem lam_newC {X : Cx} {pins : List (Addr × Obj)} {σ : L2.St} {H : Hp} {s : Shared} {P : Addr} {q : Str} {T : List (Addr × Str)} {params : Arguments} {body : Expr} {scope : Scope} {lp : Pos} {E Q : Value → Shared → Prop} (I : Inv X pins σ H s) (hlm : LamOk X P q) (hmT : (P, q) ∈ T)
    (hu : ∀ p ∈ T, p.1 = P → p.2 = q) (hT : LamX.Tabs T H) (hdef : defaultsOf params X.env = ([], [])) (hfr : ∀ x ∈ scope.names, x.2 = .free → ∃ c, X.env.cells.lookup x.1 = some c)
    (k : ∀ (f c' : Addr) (pm ctv : Value) (H2 : Hp) (s2 : Shared), Inv X pins σ H2 s2 → TbX T H H2 → s2.heap.get? f = some (PySem.W.kla_obj "<lambda>" q params body scope (cloFrom X.env.cells scope.names []) pm c' ctv) → H2 c' = some (LamX.CodeO c' q) →
      H2 f = none → s.heap.objs.size ≤ f → Q (.ref f) s2) :
    wpAny (model X.prog X.w) X.A (eval (.Lambda params body scope lp) X.env) Q E s := by
  obtain ⟨c, hcode, TB, eq⟩ := hlm
  obtain ⟨tab, eP, tri, inTab⟩ := hT (P, q) hmT
  have hb := TB.bm.keeps I.bk
  have oP := I.hok P (.tbl tab) eP
  have clo := closure_ok (scope := scope) (env := X.env) hfr
  have ltP : P < s.heap.objs.size := I.hok.lt eP
  apply PySem.W.kla_eval hdef
  rw [eq]
  rcases hfound : codeAmong lp tab.toList with _ | cv
  · apply PySem.W.kla_makeFunction (mg := X.mg) clo I.ok.glob (I.mod.glob.keeps I.bk) hcode (TB.code.keeps I.bk) oP tri hfound TB.gP hb
    intro c' ctv g tk kept hlow hhigh hrec hat
    obtain ⟨c2, oc, vs, tn, ec, g1, g2, g3⟩ := hrec
    obtain rfl : c' = c2 := by cases ec; rfl
    have free' : H c' = none := I.hok.fresh hlow
    have hPc : P ≠ c' := ne_of_none eP free'
    have J := LamX.inv_table (q := q) (t' := tk) (more := #[rawInt lp.line, rawInt lp.col, .ref c']) (h' := g.push (PySem.W.kla_obj "<lambda>" q params body scope (cloFrom X.env.cells scope.names []) ((X.mg "__name__").getD .none) c' ctv)) I eP
      (fun b o nb e => Heap.get?_push_of_some _ (kept b o nb e)) (Heap.get?_push_of_some _ hat) hlow ⟨oc, vs, tn, Heap.get?_push_of_some _ g1, g2, g3⟩
    have old : ∀ {b u}, H b = some u → b ≠ P → upd (upd H P (.tbl (tab ++ #[rawInt lp.line, rawInt lp.col, .ref c']))) c' (LamX.CodeO c' q) b = some u := fun {b u} e nb => by
      rw [upd_ne (ne_of_none e free'), upd_ne nb]; exact e
    have ext : LamX.ExtN H (upd (upd H P (.tbl (tab ++ #[rawInt lp.line, rawInt lp.col, .ref c']))) c' (LamX.CodeO c' q)) := fun b u e n => old e fun z => by
      subst z; rw [eP] at e; cases e; exact n tab rfl
    have low2 : s.heap.objs.size ≤ g.objs.size := Nat.le_trans hlow (Nat.le_of_lt hhigh)
    refine k g.objs.size c' _ ctv _ _ J ⟨ext, fun a ha => ?_, fun p hp => ?_⟩ (Heap.get?_push_size _ rfl) upd_same ?_ low2
    · by_cases z : a = c'
      · subst z; rw [upd_same]; exact fun w => by cases w
      · rw [upd_ne z]
        by_cases z2 : a = P
        · subst z2; rw [upd_same]; exact fun w => by cases w
        · rw [upd_ne z2]; exact ha
    · have seen : ∀ {p' : Pos} {cv : Value} {t2 : Array Value}, (∃ cc, cv = Value.ref cc ∧ H cc = some (LamX.CodeO cc p.2)) → ∃ cc, cv = .ref cc ∧ upd (upd H P (.tbl (tab ++ #[rawInt lp.line, rawInt lp.col, .ref c']))) c' (LamX.CodeO c' q) cc = some (LamX.CodeO cc p.2) :=
        fun {p' cv t2} ⟨cc, w1, w2⟩ => ⟨cc, w1, ext _ _ w2 LamX.codeO_ne⟩
      by_cases z : p.1 = P
      · have hq2 := hu p hp z
        refine ⟨tab ++ #[rawInt lp.line, rawInt lp.col, .ref c'], by rw [z, upd_ne hPc, upd_same], ?_, fun p' cv hcv => ?_⟩
        · have : (tab ++ #[rawInt lp.line, rawInt lp.col, .ref c']).toList = tab.toList ++ [rawInt lp.line, rawInt lp.col, .ref c'] := by simp
          rw [this]; exact PySem.TriplesOk_snoc _ _ _ _ tri
        · have : (tab ++ #[rawInt lp.line, rawInt lp.col, .ref c']).toList = tab.toList ++ [rawInt lp.line, rawInt lp.col, .ref c'] := by simp
          rw [this] at hcv
          rcases LamX.among_app _ tri hcv with w | w
          · have := inTab p' cv w
            rw [← hq2] at this
            exact seen (p' := p') (t2 := tab) this
          · rw [hq2]; exact ⟨c', w, upd_same⟩
      · obtain ⟨t2, w1, w2, w3⟩ := hT p hp
        exact ⟨t2, old w1 z, w2, fun p' cv hcv => seen (p' := p') (t2 := tab) (w3 p' cv hcv)⟩
    · rw [upd_ne (Nat.ne_of_gt hhigh), upd_ne (Nat.ne_of_gt (Nat.lt_of_lt_of_le ltP low2))]
      exact I.hok.fresh low2
  · obtain ⟨cc, ecv, hcc⟩ := inTab lp cv hfound
    subst ecv
    apply PySem.W.kla_makeFunctionHit (mg := X.mg) clo I.ok.glob (I.mod.glob.keeps I.bk) hcode (TB.code.keeps I.bk) oP tri hfound hb
    intro ctv g tk kept hsz
    exact k g.objs.size cc _ ctv H _ (I.kept fun b o e => Heap.get?_push_of_some _ (kept b o e)) ⟨LamX.ExtN.refl H, fun _ z => z, hT⟩ (Heap.get?_push_size _ rfl) hcc (I.hok.fresh hsz) hsz
section
variable {X : Cx} {P : Addr} {q y : Str} {T : List (Addr × Str)} {params : Arguments} {body e : Expr} {scope : Scope} {te tb : TE} {p pos kp lp : Pos} {iy : Nat}
theorem Inv.swap {pins : List (Addr × Obj)} {σ : L2.St} {H : Hp} {s : Shared} {h' : Heap} {t' : Nat} {a kS : Addr} {out : List Value} {vs : List V} {c : Nat} (I : Inv X pins σ H s) (hka : kS ≠ a) (na : H a = none) (nk : H kS = none)
    (la : X.s_0.heap.objs.size ≤ a) (lk : X.s_0.heap.objs.size ≤ kS) (oa : ∃ xs n, s.heap.get? a = some (seqObj "list" xs n)) (ok : ∃ xs n, s.heap.get? kS = some (seqObj "list" xs n)) (pa : ∀ p ∈ X.pn ++ pins, p.1 ≠ a ∧ p.1 ≠ kS)
    (kpt : ∀ b o, b ≠ a → b ≠ kS → s.heap.get? b = some o → h'.get? b = some o) (hz : vs.length ≤ sizeLine) (r : Vals vs out) (ho : h'.get? a = some (seqObj "list" (List.toArray out) c)) :
    Inv X pins σ (upd H a (.lst vs)) { s with heap := h', toks := t' } := by
  have nloc : ∀ b, (∃ xs n, s.heap.get? b = some (seqObj "list" xs n)) → b ≠ X.env.locals := fun b ⟨xs, n, h⟩ z => by
    obtain ⟨m, ⟨o, es, ep, h2, h3, _⟩, _⟩ := I.loc
    rw [z, h2] at h; cases h; cases h3
  have ncell : ∀ b, (∃ xs n, s.heap.get? b = some (seqObj "list" xs n)) → ∀ x c, X.env.cells.lookup x = some c → c ≠ b := fun b ⟨xs, n, h⟩ x c e z => by
    obtain ⟨v, o, h2, h3⟩ := I.cell x c e
    rw [z, h] at h2; cases h2; cases h3
  have nb : ∀ b, b ∉ [kS, a] → b ≠ a ∧ b ≠ kS := fun b h => ⟨fun z => h (by rw [z]; simp), fun z => h (by rw [z]; simp)⟩
  have tr : ∀ b u, H b = some u → b ≠ a ∧ b ≠ kS := fun b u e => ⟨ne_of_none e na, ne_of_none e nk⟩
  refine I.step (g' := s.gens) (d' := s.drawn) (ch := [kS, a]) (fun b hb => ?_) (fun b o _ _ hc e n => kpt b o (nb b hc).1 (nb b hc).2 e) (fun b o _ _ hc e n => ⟨o.slots, kpt b o (nb b hc).1 (nb b hc).2 e⟩)
    (fun b o hc _ n => by rw [upd_ne (nb b hc).1]; exact n) (fun b o hc e => ⟨o, kpt b o (nb b hc).1 (nb b hc).2 e⟩) (fun b xs e => by rw [upd_ne (tr b _ e).1]; exact e) (fun b o u e => by rw [upd_ne (tr b _ e).1]; exact e) (fun b ps e => ⟨#[], by rw [upd_ne (tr b _ e).1, e]; simp⟩)
    (fun m hn => ?_) (fun b u e => ?_) I.bare
  · rcases List.mem_cons.mp hb with z | z
    · subst z
      exact ⟨.inr lk, nloc _ ok, ncell _ ok, fun p hp => (pa p hp).2⟩
    · rw [List.mem_singleton] at z; subst z
      exact ⟨.inr la, nloc _ oa, ncell _ oa, fun p hp => (pa p hp).1⟩
  · obtain ⟨ob, es, ep, ho, r⟩ := hn
    exact ⟨ob, es, ep, kpt _ ob (nloc _ oa).symm (nloc _ ok).symm ho, r⟩
  · by_cases hb : b = a
    · subst hb
      rw [upd_same] at e; cases e
      exact ⟨hz, out, c, r, ho⟩
    · rw [upd_ne hb] at e
      refine (I.hok b u e).stay (fun d v hd g => ?_) (fun d g => by rw [upd_ne (tr d _ g).1]; exact g) fun d xs g => by rw [upd_ne (tr d _ g).1]; exact g
      rcases hd with z | z
      · subst z; exact kpt _ v (tr _ _ e).1 (tr _ _ e).2 g
      · exact kpt _ v (tr _ _ z).1 (tr _ _ z).2 g
theorem Inv.swap1 {pins : List (Addr × Obj)} {σ : L2.St} {H : Hp} {s : Shared} {h' : Heap} {t' : Nat} {kS : Addr} (I : Inv X pins σ H s) (nk : H kS = none) (lk : X.s_0.heap.objs.size ≤ kS) (ok : ∃ xs n, s.heap.get? kS = some (seqObj "list" xs n)) (pa : ∀ p ∈ X.pn ++ pins, p.1 ≠ kS)
    (kpt : ∀ b o, b ≠ kS → s.heap.get? b = some o → h'.get? b = some o) (hx : ∃ o, h'.get? kS = some o) :
    Inv X pins σ H { s with heap := h', toks := t' } := by
  have nloc : kS ≠ X.env.locals := fun z => by
    obtain ⟨xs, n, h⟩ := ok
    obtain ⟨m, ⟨o, es, ep, h2, h3, _⟩, _⟩ := I.loc
    rw [z, h2] at h; cases h; cases h3
  have ncell : ∀ x c, X.env.cells.lookup x = some c → c ≠ kS := fun x c e z => by
    obtain ⟨xs, n, h⟩ := ok
    obtain ⟨v, o, h2, h3⟩ := I.cell x c e
    rw [z, h] at h2; cases h2; cases h3
  have nb : ∀ b, b ∉ [kS] → b ≠ kS := fun b h z => h (by rw [z]; simp)
  have tr : ∀ b u, H b = some u → b ≠ kS := fun b u e => ne_of_none e nk
  refine I.step (g' := s.gens) (d' := s.drawn) (ch := [kS]) (fun b hb => ?_) (fun b o _ _ hc e n => kpt b o (nb b hc) e) (fun b o _ _ hc e n => ⟨o.slots, kpt b o (nb b hc) e⟩)
    (fun b o hc _ n => n) (fun b o hc e => ⟨o, kpt b o (nb b hc) e⟩) (fun b xs e => e) (fun b o u e => e) (fun b ps e => ⟨#[], by rw [e]; simp⟩)
    (fun m hn => ?_) (fun b u e => ?_) I.bare
  · rw [List.mem_singleton] at hb; subst hb
    exact ⟨.inr lk, nloc, ncell, pa⟩
  · obtain ⟨ob, es, ep, ho, r⟩ := hn
    exact ⟨ob, es, ep, kpt _ ob nloc.symm ho, r⟩
  · refine (I.hok b u e).stay (fun d v hd g => ?_) (fun d g => g) fun d xs g => g
    rcases hd with z | z
    · subst z; exact kpt _ v (tr _ _ e) g
    · exact kpt _ v (tr _ _ z) g
end
theorem ltN {h : Heap} {a : Addr} {o : Obj} (e : h.get? a = some o) : @LT.lt Nat instLTNat a h.objs.size := Heap.lt_size e
def datS : Sl → Sl
  | .v d => .v d
  | _ => .un
def keyE (iy : Nat) (ρ : En) (d : D) : En := (ρ.map datS).set iy (.v d)
theorem keyE_get {iy : Nat} {ρ : En} {d : D} (i : Nat) (h : iy < ρ.length) : (keyE iy ρ d)[i]? = if i = iy then some (.v d) else (ρ[i]?).map datS := by
  unfold keyE
  by_cases e : i = iy
  · subst e; rw [if_pos rfl, List.getElem?_set_self (by rw [List.length_map]; exact h)]
  · rw [if_neg e, List.getElem?_set_ne (Ne.symm e), List.getElem?_map]
theorem keyE_val {iy : Nat} {ρ : En} {d : D} (i : Nat) (h : iy < ρ.length) {s : Sl} (e : (keyE iy ρ d)[i]? = some s) : (i = iy ∧ s = .v d) ∨ (i ≠ iy ∧ ((∃ d', s = .v d' ∧ ρ[i]? = some (.v d')) ∨ s = .un)) := by
  rw [keyE_get i h] at e
  split at e
  · rename_i z; cases e; exact .inl ⟨z, rfl⟩
  · rename_i z
    refine .inr ⟨z, ?_⟩
    cases q : ρ[i]? with
    | none => rw [q] at e; cases e
    | some t =>
      rw [q] at e; cases e
      cases t with
      | v d' => exact .inl ⟨d', rfl, rfl⟩
      | _ => exact .inr rfl
section
variable {K : KK} {ρ ρ2 : En} {σ : Sg} {H F H' F' : Hp} {iy : Nat} {v : V} {d : D}
theorem key_open (h : iy < ρ.length) {s : Sg} {a : Addr} : ¬ OpenAt (keyE iy ρ d) s a := fun ⟨i, b, c, e, _⟩ => by
  rcases keyE_val i h e with ⟨_, z⟩ | ⟨_, ⟨_, z, _⟩ | z⟩ <;> cases z
theorem key_gd (G : Gd K ρ σ H F) (r : Dq K F v d) (h : iy < ρ.length) : Gd K (keyE iy ρ d) (σ.set iy (some v)) H F := by
  have hs : iy < σ.length := by rw [G.len]; exact h
  refine ⟨by unfold keyE; rw [List.length_set, List.length_set, List.length_map]; exact G.len, G.sub, fun i d' e => ?_, fun i ns e => ?_, fun i b c e => ?_, fun i j a hi => ?_, G.tab⟩
  · rcases keyE_val i h e with ⟨z, z2⟩ | ⟨z, ⟨d2, z2, z3⟩ | z2⟩
    · cases z2; subst z
      exact ⟨v, List.getElem?_set_self hs, r⟩
    · cases z2
      obtain ⟨w, h1, h2⟩ := G.val i _ z3
      exact ⟨w, by rw [List.getElem?_set_ne (Ne.symm z)]; exact h1, h2⟩
    · cases z2
  · rcases keyE_val i h e with ⟨_, z⟩ | ⟨_, ⟨_, z, _⟩ | z⟩ <;> cases z
  · rcases e with e | e <;> rcases keyE_val i h e with ⟨_, z⟩ | ⟨_, ⟨_, z, _⟩ | z⟩ <;> cases z
  · obtain ⟨⟨b, c, e⟩, _⟩ := hi
    rcases e with e | e <;> rcases keyE_val i h e with ⟨_, z⟩ | ⟨_, ⟨_, z, _⟩ | z⟩ <;> cases z
theorem key_back (G : Gd K ρ σ H F) (h : iy < ρ.length) (G' : Gd K ρ2 (σ.set iy (some v)) H' F') (E : Ext (keyE iy ρ d) (σ.set iy (some v)) H F ρ2 (σ.set iy (some v)) H' F') : Gd K ρ σ H' F' ∧ Ext ρ σ H F ρ σ H' F' := by
  have kp : ∀ a o, H a = some o → NT o → H' a = some o ∧ (F a = none → F' a = none) := fun a o e n => E.keep a o e n (key_open h)
  refine ⟨⟨G.len, G'.sub, fun i d e => ?_, fun i ns e => ?_, fun i b c e => ?_, G.inj, G'.tab⟩, ⟨E.fz, fun a o e n _ => kp a o e n, E.dom, fun a z => .inl z, fun i c e => ⟨⟨c, e⟩, rfl⟩, fun i b c e => ⟨e, rfl⟩, fun i b c e => e, fun i c e => ⟨c, e⟩⟩⟩
  · obtain ⟨w, h1, h2⟩ := G.val i d e
    exact ⟨w, h1, h2.sub E.fz⟩
  · obtain ⟨a, h1, h2, h3⟩ := G.scr i ns e
    exact ⟨a, h1, sqL_sub E.fz h2, h3⟩
  · obtain ⟨a, h1, h2, h3⟩ := G.opn i b c e
    obtain ⟨o, h4⟩ := h3.some
    exact ⟨a, h1, (kp a o h4 (h3.nt h4)).2 h2, h3.mono E.fz fun u z => (kp a u z (h3.nt z)).1⟩
end
def Ctx.lamc (c : Ctx) (scope : Scope) : Ctx := { c with sc := scope, fn := fun x => scope.names.lookup x == some .cell, calm := true, lam := none }
theorem Fits.lamc {k : Nat} {c : Ctx} {X : Cx} (h : Fits k c X) (hc : c.calm = true) {P : Addr} {q : Str} (hl : c.lam = some (P, q)) (scope : Scope) (s : Shared) (H : Hp) (f c' : Addr) : Fits k (c.lamc scope) (lamX X X.A.in1.in1 q s H scope f c') := by
  have sk := h.sk P q hl
  have hd := h.hd (h.calm hc)
  obtain ⟨⟨T, rfl⟩, h2, h3, h4, _, _⟩ := h
  exact ⟨⟨(T.1, none), rfl⟩, ⟨by have := sk.dp; show X.A.depth + 1 + 3 * k + 5 < _; omega, by have := sk.un; show X.A.units + 1 + 1 + 3 + 16 * k + 200 < _; omega⟩, fun _ => hd, h4, fun _ _ z => (by cases z), fun _ _ z => (by cases z)⟩
def lamPB (N : List Str) (sc scope : Scope) (y : Str) (iy : Nat) : Bool :=
  decide (scope.kind = .function) && !scope.isCoroutine && !scope.isGenerator && scope.names.all (fun z => decide (scope.names.lookup z.1 = some z.2)) && (decide (scope.names.lookup y = some .local) || decide (scope.names.lookup y = some .cell)) &&
  scope.names.all (fun z => !(decide (z.2 = .local) || decide (z.2 = .cell)) || decide (z.1 = y)) && scope.names.all (fun z => !decide (z.2 = .free) || (decide (sc.names.lookup z.1 = some .cell) || decide (sc.names.lookup z.1 = some .free))) && decide (N[iy]? = some y)
theorem lamP_by {N : List Str} {sc scope : Scope} {params : Arguments} {y : Str} {iy : Nat} (h : lamPB N sc scope y iy = true)
    (hb : ∀ (q : Str) (body : Expr) (cl : List (Str × Addr)) (pm cdv ctv v : Value), bindArgs (PySem.W.kla_fn "<lambda>" q params body scope cl pm cdv ctv) ⟨[v], []⟩ = pure [(y, v)]) : LamP N sc scope params y iy := by
  unfold lamPB at h
  simp only [Bool.and_eq_true, Bool.or_eq_true, Bool.not_eq_true', decide_eq_true_eq, List.all_eq_true, decide_eq_false_iff_not, Bool.or_eq_false_iff] at h
  obtain ⟨⟨⟨⟨⟨⟨⟨h1, h2⟩, h3⟩, h4⟩, h5⟩, h6⟩, h7⟩, h8⟩ := h
  refine ⟨h1, h2, h3, h4, h5, fun z hz e => ?_, fun z hz e => ?_, h8, hb⟩
  · rcases h6 z hz with k | k
    · rcases e with e | e
      · exact absurd e k.1
      · exact absurd e k.2
    · exact k
  · rcases h7 z hz with k | k
    · exact absurd e k
    · exact k
abbrev Nah : Value → Shared → Prop := fun _ _ => False
section
variable {pr : Program} {wd : World} {Ar : Around}
def BodyWp (pr : Program) (wd : World) (Ar : Around) (elt : Expr) (gs : List Comprehension) (sco : Scope) (po : Pos) (k : Nat) (acc : Value) (en : Env) (Qb : Shared → Prop) (s : Shared) : Prop :=
  match gs[k + 1]? with
  | some g1 => wpAny (model pr wd) Ar (eval g1.iter en) (fun x sx => wpAny (model pr wd) Ar (pyIter x) (fun j sj =>
      codeAny (model pr wd) Ar (.compStart (.ListComp elt gs sco po) (k + 1) j acc en) (fun r sr => match r with | .ok _ => Qb sr | .error _ => False) sj) Nah sx) Nah s
  | none => wpAny (model pr wd) Ar (eval elt en) (fun x sx => wpAny (model pr wd) Ar (call (.builtin "list.append") [acc, x]) (fun _ sy => Qb sy) Nah sx) Nah s
theorem BodyWp.mono {elt : Expr} {gs : List Comprehension} {sco : Scope} {po : Pos} {k : Nat} {acc : Value} {en : Env} {Q1 Q2 : Shared → Prop} {s : Shared} (h : BodyWp pr wd Ar elt gs sco po k acc en Q1 s) (m : ∀ z, Q1 z → Q2 z) : BodyWp pr wd Ar elt gs sco po k acc en Q2 s := by
  unfold BodyWp at *
  split at h
  · refine wpAny_mono h (fun x sx hx => wpAny_mono hx (fun j sj hj => codeAny_mono hj fun r sr hr => ?_) fun _ _ z => z) fun _ _ z => z
    cases r with
    | ok f => exact m _ hr
    | error e => exact hr
  · exact wpAny_mono h (fun x sx hx => wpAny_mono hx (fun _ sy hy => m _ hy) fun _ _ z => z) fun _ _ z => z
end
abbrev Bd := List D → En → Option (List D × En)
section
variable {pr : Program} {wd : World} {Ar : Around} {Rs : Result → Shared → Prop} {it S f : Addr} {J : Nat → Value → Value → Shared → Prop} {n : Nat} {kw : List (Str × Value)}
abbrev Two (S : Addr) (b kb : Value) (c : Nat) (s : Shared) : Prop := s.heap.get? S = some (seqObj "list" #[b, kb] c)
theorem minK_loop
    (item : ∀ i b kb s c, i < n → J i b kb s → Two S b kb c s → wpAny (model pr wd) Ar.in1 (pyNext (.ref it)) (fun r s1 => ∃ v, r = some v ∧ wpAny (model pr wd) Ar.in1 (call (.ref f) [v]) (fun kx s2 =>
      wpAny (model pr wd) Ar.in1 (richCompare .Lt kx kb) (fun bv s3 => ∃ bt : Bool, bv = .bool bt ∧ Two S b kb c s3 ∧ if bt = true then ∀ h1 o, Heap.SameBut S s3.heap h1 → h1.get? S = some o → J (i + 1) v kx { s3 with heap := h1 } else J (i + 1) b kb s3) Nah s2) Nah s1) Nah s)
    (done : ∀ b kb s c, J n b kb s → Two S b kb c s → wpAny (model pr wd) Ar.in1 (pyNext (.ref it)) (fun r s1 => r = none ∧ Two S b kb c s1 ∧ ∀ h1 o, Heap.SameBut S s1.heap h1 → h1.get? S = some o → Rs (.ok (.ret b)) { s1 with heap := h1 }) Nah s) :
    ∀ (k i : Nat) (s : Shared) (b kb : Value) (c : Nat), n - i = k → i ≤ n → J i b kb s → Two S b kb c s → codeAny (model pr wd) Ar (.builtin "min.loop" ⟨[.ref it, .ref f, .ref S], kw⟩) Rs s := by
  have nm : (toString "min" ++ toString ".loop" : String) = "min.loop" := by decide
  intro k
  induction k with
  | zero =>
    intro i s b kb c hk hi hJ hS
    have hi2 : i = n := by omega
    subst hi2
    refine codeAny_builtin F.entry_min_loop ?_
    rw [Around.under_plainId F.plain_min_loop _]
    show wpAny _ Ar.in1 (seqItems? (.ref S) >>= _) _ _ s
    refine wpAny_bind (wpAny_seqItems hS rfl ?_)
    show wpAny _ Ar.in1 (tryCatch (pyNext (.ref it)) _ >>= _) _ _ s
    refine wpAny_bind (wpAny_tryCatch (wpAny_mono (done b kb s c hJ hS) (fun r s1 h1 => ?_) fun _ _ z => z.elim))
    obtain ⟨rfl, hS1, hR⟩ := h1
    show wpAny _ Ar.in1 (updateSeq S (fun _ => #[]) >>= _) _ _ _
    refine wpAny_bind (wpAny_updateSeq hS1 rfl (wpAny_bind (wpAny_letGo (wpAny_pure ?_))))
    exact hR _ _ (Heap.SameBut.update ..) (Heap.get?_update_self _ hS1 rfl)
  | succ k ih =>
    intro i s b kb c hk hi hJ hS
    refine codeAny_builtin F.entry_min_loop ?_
    rw [Around.under_plainId F.plain_min_loop _]
    show wpAny _ Ar.in1 (seqItems? (.ref S) >>= _) _ _ s
    refine wpAny_bind (wpAny_seqItems hS rfl ?_)
    show wpAny _ Ar.in1 (tryCatch (pyNext (.ref it)) _ >>= _) _ _ s
    refine wpAny_bind (wpAny_tryCatch (wpAny_mono (item i b kb s c (by omega) hJ hS) (fun r s1 h1 => ?_) fun _ _ z => z.elim))
    obtain ⟨v, rfl, h1⟩ := h1
    show wpAny _ Ar.in1 (tryCatch (holding [v] (call (.ref f) [v])) _ >>= _) _ _ _
    refine wpAny_bind (wpAny_tryCatch (wpAny_holding (wpAny_mono h1 (fun kx s2 h2 => ?_) fun _ _ z => z.elim)))
    show wpAny _ Ar.in1 (tryCatch (holding [v, kx] (richCompare .Lt kx kb >>= _)) _ >>= _) _ _ _
    refine wpAny_bind (wpAny_tryCatch (wpAny_holding (wpAny_bind (wpAny_mono h2 (fun bv s3 h3 => ?_) fun _ _ z => z.elim))))
    obtain ⟨bt, rfl, hS3, h3⟩ := h3
    refine wpAny_bind (wpAny_holding (wpAny_truthy_bool ?_))
    refine wpAny_bind (wpAny_letGo (wpAny_pure ?_))
    cases bt with
    | true =>
      simp only [if_true] at h3 ⊢
      refine wpAny_bind (wpAny_updateSeq hS3 rfl (wpAny_bind (wpAny_letGo ?_)))
      rw [nm]
      exact wpAny_pure ⟨plainId_quiet F.plain_min_loop _, ih (i + 1) _ v kx _ (by omega) (by omega) (h3 _ _ (Heap.SameBut.update ..) (Heap.get?_update_self _ hS3 rfl)) (Heap.get?_update_self _ hS3 rfl)⟩
    | false =>
      simp only [Bool.false_eq_true, if_false] at h3 ⊢
      refine wpAny_bind (wpAny_letGo ?_)
      rw [nm]
      exact wpAny_pure ⟨plainId_quiet F.plain_min_loop _, ih (i + 1) _ b kb c (by omega) (by omega) h3 hS3⟩
theorem minK_call {l : Addr} {s : Shared} {Q : Value → Shared → Prop} {E : Value → Shared → Prop} (hn : 0 < n) (he : ∀ {Q : Value → Shared → Prop}, (Q (.ref it) { s with heap := s.heap.push { cls := .type "list_iterator", data := .fields #[.ref l, .int 0 0] } }) → wpAny (model pr wd) Ar.in1 (pyIter (.ref l)) Q E s)
    (hS : S = (s.heap.push { cls := .type "list_iterator", data := .fields #[.ref l, .int 0 0] }).objs.size)
    (first : ∀ s0 c, s0 = { s with heap := (s.heap.push { cls := .type "list_iterator", data := .fields #[.ref l, .int 0 0] }).push { cls := .type "list", data := .seq #[] 0 } } → s0.heap.get? S = some (seqObj "list" #[] c) → wpAny (model pr wd) Ar.in1 (pyNext (.ref it)) (fun r s1 => ∃ v, r = some v ∧
      wpAny (model pr wd) Ar.in1 (call (.ref f) [v]) (fun kx s2 => s2.heap.get? S = some (seqObj "list" #[] c) ∧ ∀ h1 o, Heap.SameBut S s2.heap h1 → h1.get? S = some o → J 1 v kx { s2 with heap := h1 }) Nah s1) Nah s0)
    (item : ∀ i b kb s c, i < n → J i b kb s → Two S b kb c s → wpAny (model pr wd) Ar.in1 (pyNext (.ref it)) (fun r s1 => ∃ v, r = some v ∧ wpAny (model pr wd) Ar.in1 (call (.ref f) [v]) (fun kx s2 =>
      wpAny (model pr wd) Ar.in1 (richCompare .Lt kx kb) (fun bv s3 => ∃ bt : Bool, bv = .bool bt ∧ Two S b kb c s3 ∧ if bt = true then ∀ h1 o, Heap.SameBut S s3.heap h1 → h1.get? S = some o → J (i + 1) v kx { s3 with heap := h1 } else J (i + 1) b kb s3) Nah s2) Nah s1) Nah s)
    (done : ∀ b kb s c, J n b kb s → Two S b kb c s → wpAny (model pr wd) Ar.in1 (pyNext (.ref it)) (fun r s1 => r = none ∧ Two S b kb c s1 ∧ ∀ h1 o, Heap.SameBut S s1.heap h1 → h1.get? S = some o → Q b { s1 with heap := h1 }) Nah s) :
    wpAny (model pr wd) Ar (call (.builtin "min") [.ref l] [(Str.ofString "key", .ref f)]) Q E s := by
  have nm : (toString "min" ++ toString ".loop" : String) = "min.loop" := by decide
  refine PyProof.Rows.kmk_tree F.kind_min F.plain_min F.entry_min (PyProof.Rows.kmk_min_key _ _) ?_
  show wpAny _ Ar.in1 (Builtin.Builtins.bindParams "min" ["key", "default"] 0 ⟨[], [(Str.ofString "key", .ref f)]⟩ >>= _) _ _ s
  refine wpAny_bind (wpAny_of_eq (a := [some (.ref f), none]) (by rfl) (wpAny_bind (wpAny_pure (wpAny_bind (he ?_)))))
  refine wpAny_bind (wpAny_newObj_type ?_ (by show 0 ≤ sizeLine; decide))
  rw [nm]
  generalize hs0 : ({ s with heap := (s.heap.push { cls := .type "list_iterator", data := .fields #[.ref l, .int 0 0] }).push { cls := .type "list", data := .seq #[] 0 } } : Shared) = s0
  have hS0 : s0.heap.get? S = some (seqObj "list" #[] 0) := by rw [← hs0, hS]; exact Heap.get?_push_size _ rfl
  have ft := first s0 0 hs0.symm hS0
  rw [← hs0] at ft hS0 ⊢
  refine wpAny_pure ⟨plainId_quiet F.plain_min_loop _, ?_⟩
  rw [← hS]
  refine codeAny_builtin F.entry_min_loop ?_
  rw [Around.under_plainId F.plain_min_loop _]
  show wpAny _ Ar.in1 (seqItems? (.ref S) >>= _) _ _ _
  refine wpAny_bind (wpAny_seqItems hS0 rfl ?_)
  show wpAny _ Ar.in1 (tryCatch (pyNext (.ref it)) _ >>= _) _ _ _
  refine wpAny_bind (wpAny_tryCatch (wpAny_mono ft (fun r s1 h1 => ?_) fun _ _ z => z.elim))
  obtain ⟨v, rfl, h1⟩ := h1
  show wpAny _ Ar.in1 (tryCatch (holding [v] (call (.ref f) [v])) _ >>= _) _ _ _
  refine wpAny_bind (wpAny_tryCatch (wpAny_holding (wpAny_mono h1 (fun kx s2 h2 => ?_) fun _ _ z => z.elim)))
  obtain ⟨hS2, hJ⟩ := h2
  show wpAny _ Ar.in1 (updateSeq S (fun _ => #[v, kx]) >>= _) _ _ _
  refine wpAny_bind (wpAny_updateSeq hS2 rfl ?_)
  rw [nm]
  exact wpAny_pure ⟨plainId_quiet F.plain_min_loop _, minK_loop item done _ 1 _ v kx _ rfl hn (hJ _ _ (Heap.SameBut.update ..) (Heap.get?_update_self _ hS2 rfl)) (Heap.get?_update_self _ hS2 rfl)⟩
end
def tMinKey (KF : PySem.W.Frag) (T : List (Addr × Str)) (q : Str) (iy : Nat) (te tb : TE) : TE := fun σ H Q => te σ H fun x H1 => LamX.Tabs T H1 ∧ ∃ (l : Addr) (xs : List V), x = .ref l ∧ SqL KF H1 l xs ∧ xs ≠ [] ∧
  ∀ (H2 : Hp) (c' : Addr), TbX T H1 H2 → H2 c' = some (LamX.CodeO c' q) → SqL KF H2 l xs ∧ ∃ M : Nat → V → V → Hp → Prop, (∀ i b kb H3, M i b kb H3 → H3 c' = some (LamX.CodeO c' q) ∧ SqL KF H3 l xs) ∧
    (∀ v, xs[0]? = some v → tb (σ.set iy (some v)) H2 fun k H4 => M 1 v k H4) ∧
    (∀ i v b kb H3, 1 ≤ i → xs[i]? = some v → M i b kb H3 → tb (σ.set iy (some v)) H3 fun kx H4 => ∃ d e, Dp KF H4 kx d ∧ Dp KF H4 kb e ∧ PySem.W.alike d e = true ∧ d ≠ .none ∧ min d.depth e.depth ≤ 64 ∧ (if PySem.W.dataLt d e = true then M (i + 1) v kx H4 else M (i + 1) b kb H4)) ∧
    ∀ b kb H3, M xs.length b kb H3 → Q b H3
section
variable {X : Cx} {P : Addr} {q y : Str} {T : List (Addr × Str)} {params : Arguments} {body e : Expr} {scope : Scope} {te tb : TE} {p pos kp lp : Pos} {iy : Nat}
theorem pe_minKey (L : LamP X.N X.env.scope scope params y iy) (hN : X.N.Nodup) (hlm : LamOk X P q) (hmT : (P, q) ∈ T) (hu : ∀ p ∈ T, p.1 = P → p.2 = q) (hdef : defaultsOf params X.env = ([], [])) (hc : X.calm = true) (hd : X.A.depth < recursionLimit) (hun : X.A.units + 70 < cLine)
    (hg : Gl X (Str.ofString "min")) (hm : X.mg (Str.ofString "min") = none) (he : PE X e te) (hb : ∀ (s : Shared) (H : Hp) (f c' : Addr), PE (lamX X X.A.in1 q s H scope f c') body tb) (hs : starEach [e] X.env = [(false, eval e X.env)]) :
    PE X (.Call (.Name (Str.ofString "min") p) [e] [⟨some (Str.ofString "key"), .Lambda params body scope lp, kp⟩] pos) (tMinKey X.K T q iy te tb) := by
  refine ⟨fun pins s σ H Q I h => ?_⟩
  refine wpAny_Call_Name_kw (ld_blt (u := .builtin "min") I hg hm (by decide +kernel) ?_ (by decide +kernel) (by decide +kernel))
  have ha : PA X [e] (tCons te tNil) := pa_cons he pa_nil (hs := star1 e _ hs)
  let C : V → Hp → Prop := fun x H1 => LamX.Tabs T H1 ∧ ∃ (l : Addr) (xs : List V), x = .ref l ∧ SqL X.K H1 l xs ∧ xs ≠ [] ∧
    ∀ (H2 : Hp) (c' : Addr), TbX T H1 H2 → H2 c' = some (LamX.CodeO c' q) → SqL X.K H2 l xs ∧ ∃ M : Nat → V → V → Hp → Prop, (∀ i b kb H3, M i b kb H3 → H3 c' = some (LamX.CodeO c' q) ∧ SqL X.K H3 l xs) ∧
      (∀ v, xs[0]? = some v → tb (σ.set iy (some v)) H2 fun k H4 => M 1 v k H4) ∧
      (∀ i v b kb H3, 1 ≤ i → xs[i]? = some v → M i b kb H3 → tb (σ.set iy (some v)) H3 fun kx H4 => ∃ d e, Dp X.K H4 kx d ∧ Dp X.K H4 kb e ∧ PySem.W.alike d e = true ∧ d ≠ .none ∧ min d.depth e.depth ≤ 64 ∧ (if PySem.W.dataLt d e = true then M (i + 1) v kx H4 else M (i + 1) b kb H4)) ∧
      ∀ b kb H3, M xs.length b kb H3 → Q b H3
  refine PyProof.Rows.callWith_kw (thn (ha.run pos pins s σ H (fun vs H1 => match vs with | [x] => C x H1 | _ => False) I h) fun us s1 ⟨vs, H1, I1, r1, q1⟩ => ?_) (by rw [star1 e _ hs]; rfl) (by rw [star1 e _ hs]; rfl) rfl rfl
  match vs, q1 with
  | [x], q1 =>
    obtain ⟨u, rfl, rx⟩ := vals1 r1
    obtain ⟨hT, l, xs, rfl, _, hne, q2⟩ := q1
    obtain rfl : u = Value.ref l := rx
    show wpAny _ _ (evalAll ((do let v ← eval (.Lambda params body scope lp) X.env; standAt pos; pure v) :: [])) _ _ s1
    refine wpAny_evalAll_cons (wpAny_bind ?_)
    refine lam_newC (T := T) I1 hlm hmT hu hT hdef (L.hasF I1.ok) fun f c' pm ctv H2 s2 I2 tbx hof hco hfn hfs => ?_
    refine wpAny_bind (wpAny_standAt (wpAny_pure ?_))
    refine wpAny_evalAll_nil ?_
    obtain ⟨hsl, M, mc, m0, mt, me⟩ := q2 H2 c' tbx hco
    obtain ⟨its, rv, pl, hz⟩ := I2.list hsl
    have hlen := rv.length
    show wpAny (model X.prog X.w) X.A (call (.builtin "min") [.ref l] [(Str.ofString "key", .ref f)]) (EP X pins σ Q) X.xe s2
    have fo := hof
    generalize hob : PySem.W.kla_obj "<lambda>" q params body scope (cloFrom X.env.cells scope.names []) pm c' ctv = fob at fo
    have szF : @LT.lt Nat instLTNat f s2.heap.objs.size := ltN hof
    have nfl : f ≠ X.env.locals := fun z => by
      have := I1.lt
      rw [← z] at this
      exact absurd (Nat.lt_of_lt_of_le this hfs) (Nat.lt_irrefl _)
    have I3 : Inv X (pins ++ [(f, fob)]) σ H2 s2 := I2.pins_of fun p hp => (List.mem_append.mp hp).elim (fun z => I2.pin p (List.mem_append_right _ z)) fun z => by
      rw [List.mem_singleton] at z; subst z
      exact ⟨fo, hfn, nfl, I1.nofs hfs, fun v z => by rw [← hob] at z; cases z⟩
    have hh : X.A.handled = none := I2.ok.hd hc
    generalize hit : s2.heap.objs.size = it
    have hit : @Eq Nat s2.heap.objs.size it := hit
    generalize hS : (s2.heap.push { cls := .type "list_iterator", data := .fields #[.ref l, .int 0 0] }).objs.size = S
    have hS : @Eq Nat (s2.heap.push { cls := .type "list_iterator", data := .fields #[.ref l, .int 0 0] }).objs.size S := hS
    have hS2 : @Eq Nat S (it + 1) := by rw [← hS, Heap.size_push, hit]
    have hSit : S ≠ it := by show ¬ @Eq Nat S it; omega
    have hitS : it ≠ S := fun z => hSit z.symm
    have gi : @LE.le Nat instLENat s2.heap.objs.size it := by omega
    have gS : @LE.le Nat instLENat s2.heap.objs.size S := by omega
    have fi : ∀ {H' : Hp}, H' it = none → FpOk X (pins ++ [(f, fob)]) H' it := fun z => I3.fpOk gi z
    have X0S : X.s_0.heap.objs.size ≤ S := Nat.le_trans I2.sz gS
    have pinlt : ∀ p ∈ X.pn ++ (pins ++ [(f, fob)]), @LT.lt Nat instLTNat p.1 s2.heap.objs.size := fun p hp => ltN (I3.pin p hp).1
    have neL : ∀ b, s2.heap.objs.size ≤ b → b ≠ X.env.locals := fun b hb z => by
      have := I2.lt
      rw [← z] at this; exact absurd (Nat.lt_of_lt_of_le this hb) (Nat.lt_irrefl _)
    -- the call of the key
    have keyc : ∀ {s3 : Shared} {H3 : Hp} {xv : V} {u : Value} {arr : Array Value} {c j : Nat} {R2 : VK}, Inv X (pins ++ [(f, fob)]) σ H3 s3 → H3 it = none → H3 S = none → H3 c' = some (LamX.CodeO c' q) → s3.heap.get? S = some (seqObj "list" arr c) → s3.heap.IsListIter it l j → RelV xv u →
        tb (σ.set iy (some xv)) H3 R2 → wpAny (model X.prog X.w) X.A.in1 (call (.ref f) [u]) (fun k s4 => ∃ kv H4, Inv X (pins ++ [(f, fob)]) σ H4 s4 ∧ H4 it = none ∧ H4 S = none ∧ s4.heap.get? S = some (seqObj "list" arr c) ∧ s4.heap.IsListIter it l j ∧ RelV kv k ∧ R2 kv H4) Nah s3 := fun {s3 H3 xv u arr c j R2} J n1 n2 hcc gk gi2 rxv ht => by
      obtain ⟨oi, ei, ci, di⟩ := id gi2
      have J2 : Inv X ((pins ++ [(f, fob)]) ++ [(S, seqObj "list" arr c), (it, oi)]) σ H3 s3 := J.pins_of fun p hp => (List.mem_append.mp hp).elim (fun z => J.pin p (List.mem_append_right _ z)) fun z => by
        rcases List.mem_cons.mp z with z | z
        · subst z; exact ⟨gk, n2, neL _ gS, I2.nofs gS, fun v z => by cases z⟩
        · rw [List.mem_singleton] at z; subst z; exact ⟨ei, n1, neL _ gi, I2.nofs gi, fun v z => by rw [di] at z; cases z⟩
      have of3 := (J.pin (f, fob) (by simp)).1
      rw [← hob] at of3
      refine wpAny_mono (lamX_run (A := X.A.in1) J2 L hN J2.ok.frames hh hd of3 hcc rxv (hb s3 H3 f c') ht) (fun k s4 hq => ?_) fun _ _ z => z
      obtain ⟨kv, H4, J4, rk, r4⟩ := hq
      obtain ⟨pk1, pk2, _⟩ := J4.pin (S, seqObj "list" arr c) (by simp)
      obtain ⟨pa1, pa2, _⟩ := J4.pin (it, oi) (by simp)
      exact ⟨kv, H4, J4.unpinned, pa2, pk2, pk1, ⟨oi, pa1, ci, di⟩, rk, r4⟩
    -- the iterator's turn
    have turn : ∀ {s3 : Shared} {H3 : Hp} {j : Nat} {Q2 : Option Value → Shared → Prop}, Inv X (pins ++ [(f, fob)]) σ H3 s3 → H3 it = none → SqL X.K H3 l xs → s3.heap.IsListIter it l j → j < xs.length →
        (∀ xv u h', xs[j]? = some xv → RelV xv u → Inv X (pins ++ [(f, fob)]) σ H3 { s3 with heap := h' } → h'.IsListIter it l (j + 1) → (∀ b o, b ≠ it → s3.heap.get? b = some o → h'.get? b = some o) → Q2 (some u) { s3 with heap := h' }) →
        wpAny (model X.prog X.w) X.A.in1 (pyNext (.ref it)) Q2 Nah s3 := fun {s3 H3 j Q2} J n1 hq st hj k => by
      obtain ⟨its3, rv3, p3, _⟩ := J.list hq
      obtain ⟨xv, hx⟩ : ∃ xv, xs[j]? = some xv := ⟨_, List.getElem?_eq_getElem hj⟩
      obtain ⟨u, hu2, ru⟩ := rv3.get hx
      obtain ⟨f0, f1, f2, f3, f4, f5⟩ := fi n1
      exact wpAny_pyNext_list_item st p3.isList (x := u) (by simpa using hu2) fun h' st' sb => k xv u h' hx ru (J.turned (t' := s3.toks) (fun b o hb e => (sb.2 b hb).trans e) f0 f1 f3 f4 f5) st' fun b o hb e => (sb.2 b hb).trans e
    have up : ∀ {s3 : Shared} {H3 : Hp} {arr : Array Value} {c : Nat} {h1 : Heap} {o : Obj}, Inv X (pins ++ [(f, fob)]) σ H3 s3 → H3 S = none → s3.heap.get? S = some (seqObj "list" arr c) → Heap.SameBut S s3.heap h1 → h1.get? S = some o → Inv X (pins ++ [(f, fob)]) σ H3 { s3 with heap := h1 } := fun {s3 H3 arr c h1 o} J n2 g sb ho =>
      Inv.swap1 (t' := s3.toks) J n2 X0S ⟨_, _, g⟩ (fun p hp z => by have := pinlt p hp; rw [z] at this; omega) (fun b o hb e => (sb.2 b hb).trans e) ⟨_, ho⟩
    have len1 : 0 < xs.length := List.length_pos_iff.mpr hne
    refine minK_call (it := it) (S := S) (n := xs.length) (J := fun i b kb s3 => 1 ≤ i ∧ ∃ bv kv H3, Inv X (pins ++ [(f, fob)]) σ H3 s3 ∧ H3 it = none ∧ H3 S = none ∧ RelV bv b ∧ RelV kv kb ∧ M i bv kv H3 ∧ s3.heap.IsListIter it l i) len1
      (fun {Q2} hq => wpAny_pyIter_list pl.isList (by rw [hit]; exact hq)) hS.symm (fun s0 c e0 g0 => ?_) (fun i b kb s3 c hi ⟨h1i, bv, kv, H3, J, n1, n2, rb, rk, hM, st⟩ gS3 => ?_) (fun b kb s3 c ⟨h1i, bv, kv, H3, J, n1, n2, rb, rk, hM, st⟩ gS3 => ?_)
    · have old : ∀ b o, s2.heap.get? b = some o → s0.heap.get? b = some o := fun b o ee => by rw [e0]; exact Heap.get?_push_of_some _ (Heap.get?_push_of_some _ ee)
      have I0 : Inv X (pins ++ [(f, fob)]) σ H2 s0 := by
        rw [e0]; exact I3.kept (t' := s2.toks) fun b o ee => Heap.get?_push_of_some _ (Heap.get?_push_of_some _ ee)
      have st0 : s0.heap.IsListIter it l 0 := by
        rw [e0]
        have g1 : (s2.heap.push { cls := .type "list_iterator", data := .fields #[.ref l, .int 0 0] }).get? it = some ({ cls := .type "list_iterator", data := .fields #[.ref l, .int 0 0] } : Obj) := by rw [← hit]; exact Heap.get?_push_size _ rfl
        exact ⟨_, Heap.get?_push_of_some _ g1, rfl, rfl⟩
      refine turn I0 (I2.hok.fresh gi) hsl st0 len1 fun xv u h' hx ru J1 st1 kp => ⟨u, rfl, ?_⟩
      refine wpAny_mono (keyc (s3 := { s0 with heap := h' }) J1 (I2.hok.fresh gi) (I2.hok.fresh gS) hco (kp S _ hSit g0) st1 ru (m0 xv hx)) (fun kx s4 ⟨kv, H4, J4, n1, n2, g4, st4, rk, hM⟩ => ⟨g4, fun h1 o sb ho => ?_⟩) fun _ _ z => z
      exact ⟨Nat.le_refl _, xv, kv, H4, up J4 n2 g4 sb ho, n1, n2, ru, rk, hM, st4.at fun o e => (sb.2 it hitS).trans e⟩
    · obtain ⟨hcc, hq3⟩ := mc i bv kv H3 hM
      refine turn J n1 hq3 st hi fun xv u h' hx ru J1 st1 kp => ⟨u, rfl, ?_⟩
      refine wpAny_mono (keyc (s3 := { s3 with heap := h' }) J1 n1 n2 hcc (kp S _ hSit gS3) st1 ru (mt i xv bv kv H3 h1i hx hM)) (fun kx s4 ⟨kv2, H4, J4, m1, m2, g4, st4, rk2, d, e, hd1, hd2, ha1, ha2, ha3, hM4⟩ => ?_) fun _ _ z => z
      obtain ⟨as1, r1⟩ := Dp.reads J4 d kv2 kx hd1 rk2
      obtain ⟨as2, r2⟩ := Dp.reads J4 e kv kb hd2 rk
      have hun2 : X.A.in1.units + 64 < cLine := by show X.A.units + 1 + 64 < cLine; omega
      refine PySem.W.lt_data r1 r2 ha1 ha2 (by omega) ⟨_, rfl, g4, ?_⟩
      split at hM4
      · rename_i hb2
        rw [if_pos hb2]
        intro h1 o sb ho
        exact ⟨by omega, xv, kv2, H4, up J4 m2 g4 sb ho, m1, m2, ru, rk2, hM4, st4.at fun o e => (sb.2 it hitS).trans e⟩
      · rename_i hb2
        rw [if_neg hb2]
        exact ⟨by omega, bv, kv, H4, J4, m1, m2, rb, rk, hM4, st4⟩
    · obtain ⟨hcc, hq3⟩ := mc _ bv kv H3 hM
      obtain ⟨its3, rv3, p3, _⟩ := J.list hq3
      obtain ⟨f0, f1, f2, f3, f4, f5⟩ := fi n1
      have hl3 := rv3.length
      refine wpAny_pyNext_list_end (A := X.A.in1) hh st p3.isList (by simp; omega) fun h' eb => ⟨rfl, eb S _ hSit gS3, fun h1 o sb ho => ?_⟩
      have J1 : Inv X (pins ++ [(f, fob)]) σ H3 { s3 with heap := h' } := J.turned (t' := s3.toks) (fun b o hb e => eb b o hb e) f0 f1 f3 f4 f5
      exact ⟨bv, H3, (up (s3 := { s3 with heap := h' }) J1 n2 (eb S _ hSit gS3) sb ho).unpinned, rb, me bv kv H3 hM⟩
end
def keysD (iy : Nat) (body : Ex) (ρ : En) : List D → Option (List D)
  | [] => some []
  | d :: ds => match body (keyE iy ρ d) with
    | some (.v k, _) => (keysD iy body ρ ds).map (k :: ·)
    | _ => none
def minGo (b kb : D) : List D → List D → Option D
  | d :: ds, k :: ks => if PySem.W.alike k kb = true ∧ isNone k = false ∧ min k.depth kb.depth ≤ 64 then (if PySem.W.dataLt k kb = true then minGo d k ds ks else minGo b kb ds ks) else none
  | _, _ => some b
def xMinKey (iy : Nat) (f body : Ex) : Ex := fun ρ => (f ρ).bind fun p => if iy < p.2.length then match p.1 with
  | .fr (.l (d :: ds)) => (keysD iy body p.2 (d :: ds)).bind fun ks => match ks with
    | k :: ks => (minGo d k ds ks).map fun b => (.v b, p.2)
    | [] => none
  | _ => none else none
theorem keysD_get {iy : Nat} {body : Ex} {ρ : En} : ∀ {ds ks : List D} {i : Nat} {d : D}, keysD iy body ρ ds = some ks → ds[i]? = some d → ∃ k ρ2, body (keyE iy ρ d) = some (.v k, ρ2) ∧ ks[i]? = some k
  | [], ks, i, d, h, e => by simp at e
  | d0 :: ds, ks, i, d, h, e => by
    unfold keysD at h
    split at h
    · rename_i k ρ2 hb
      obtain ⟨ks', h1, h2⟩ := Option.map_eq_some_iff.mp h
      subst h2
      cases i with
      | zero =>
        simp at e; subst e
        exact ⟨k, ρ2, hb, rfl⟩
      | succ i =>
        obtain ⟨m, r2, h3, h4⟩ := keysD_get (i := i) h1 (by simpa using e)
        exact ⟨m, r2, h3, by simpa using h4⟩
    · cases h
theorem snd_minKey {K : KK} {t tb : TE} {f body : Ex} {iy : Nat} {q : Str} (h : SndE K t f) (hb : SndE K tb body) : SndE K (tMinKey K.F K.T q iy t tb) (xMinKey iy f body) := by
  intro ρ σ H F Q x ρ' G e qq
  unfold xMinKey at e
  obtain ⟨⟨y, ρ1⟩, e1, e⟩ := Option.bind_eq_some_iff.mp e
  split at e
  · rename_i hiy
    split at e
    · rename_i d0 ds0 hy
      have hy : y = .fr (.l (d0 :: ds0)) := hy
      subst hy
      obtain ⟨ks, e3, e⟩ := Option.bind_eq_some_iff.mp e
      split at e
      · rename_i k0 ks0
        obtain ⟨res, e4, e⟩ := Option.map_eq_some_iff.mp e
        cases e
        refine h ρ σ H F _ _ ρ1 G e1 fun v H1 F1 G1 E1 r1 => ⟨G1.tab.1, ?_⟩
        obtain ⟨L, rfl, hL0, hLF, ⟨vs, hL, hds, hz⟩, hLn⟩ := r1
        have hne : vs ≠ [] := fun z => by subst z; have := hds.length; simp at this
        refine ⟨L, vs, rfl, .inl (.inl hL), hne, fun H2 c' tx hc => ?_⟩
        obtain ⟨G2, E2⟩ := G1.tabs tx
        obtain ⟨hL2, hLF2, hLn2⟩ := E2.stay hL hLF hLn
        refine ⟨.inl (.inl hL2), fun i b kb H3 => ∃ F3 db dk, Gd K ρ1 σ H3 F3 ∧ Ext ρ1 σ H2 F1 ρ1 σ H3 F3 ∧ Dqs K F3 vs (d0 :: ds0) ∧ Dq K F3 b db ∧ Dq K F3 kb dk ∧ minGo db dk ((d0 :: ds0).drop i) ((k0 :: ks0).drop i) = some res, ?_, ?_, ?_, ?_⟩
        · rintro i b kb H3 ⟨F3, db, dk, G3, E3, _⟩
          refine ⟨(E3.keep c' _ hc (nt_ext _) fun ⟨i, b, ct, z1, z2⟩ => ?_).1, .inl (.inl (E3.stay hL2 hLF2 hLn2).1)⟩
          obtain ⟨a', q1, _, q3⟩ := G2.opn i b ct (.inl z1)
          rw [z2] at q1; cases q1
          exact (q3.nc hc) q rfl
        · intro w hw
          obtain ⟨w', hw', rw'⟩ := hds.get (show (d0 :: ds0)[0]? = some d0 from rfl)
          rw [hw] at hw'; cases hw'
          obtain ⟨k, ρ2, hbody, hk⟩ := keysD_get e3 (show (d0 :: ds0)[0]? = some d0 from rfl)
          have hk : k0 = k := by simpa using hk
          subst hk
          refine hb (keyE iy ρ1 d0) (σ.set iy (some w)) H2 F1 _ _ ρ2 (key_gd G2 rw' hiy) hbody fun u H4 F4 G4 E4 r4 => ?_
          obtain ⟨G5, E5⟩ := key_back G2 hiy G4 E4
          exact ⟨F4, d0, k0, G5, E5, hds.sub E5.fz, rw'.sub E5.fz, r4, e4⟩
        · rintro i w b kb H3 h1 hw ⟨F3, db, dk, G3, E3, hd3, hb3, hk3, e5⟩
          obtain ⟨dq, hdq⟩ : ∃ dq, (d0 :: ds0)[i]? = some dq := by
            have : i < (d0 :: ds0).length := by rw [← hd3.length]; exact (List.getElem?_eq_some_iff.mp hw).1
            exact ⟨_, List.getElem?_eq_getElem this⟩
          obtain ⟨w', hw', rw'⟩ := hd3.get hdq
          rw [hw] at hw'; cases hw'
          obtain ⟨kq, ρ2, hbody, hkn⟩ := keysD_get e3 hdq
          refine hb (keyE iy ρ1 dq) (σ.set iy (some w)) H3 F3 _ _ ρ2 (key_gd G3 rw' hiy) hbody fun u H4 F4 G4 E4 r4 => ?_
          obtain ⟨G5, E5⟩ := key_back G3 hiy G4 E4
          have ed : (d0 :: ds0).drop i = dq :: (d0 :: ds0).drop (i + 1) := by
            obtain ⟨hi, e⟩ := List.getElem?_eq_some_iff.mp hdq
            rw [List.drop_eq_getElem_cons hi, e]
          have ek : (k0 :: ks0).drop i = kq :: (k0 :: ks0).drop (i + 1) := by
            obtain ⟨hi, e⟩ := List.getElem?_eq_some_iff.mp hkn
            rw [List.drop_eq_getElem_cons hi, e]
          rw [ed, ek] at e5
          unfold minGo at e5
          split at e5
          · rename_i hcond
            have r4 : Dq K F4 u kq := r4
            have hk4 := hk3.sub E5.fz
            refine ⟨kq, dk, dw_dp _ _ (Lk.dp G5.sub (.inl r4)), dw_dp _ _ (Lk.dp G5.sub (.inl hk4)), hcond.1, (fun z => by rw [z] at hcond; exact absurd hcond.2.1 (by decide)), hcond.2.2, ?_⟩
            split at e5
            · rename_i hlt
              rw [if_pos hlt]
              exact ⟨F4, dq, kq, G5, E3.trans E5, hd3.sub E5.fz, rw'.sub E5.fz, r4, e5⟩
            · rename_i hlt
              rw [if_neg hlt]
              exact ⟨F4, db, dk, G5, E3.trans E5, hd3.sub E5.fz, hb3.sub E5.fz, hk4, e5⟩
          · cases e5
        · rintro b kb H3 ⟨F3, db, dk, G3, E3, hd3, hb3, hk3, e5⟩
          rw [hd3.length, List.drop_length] at e5
          unfold minGo at e5
          cases e5
          exact qq b H3 F3 G3 ((E1.trans E2).trans E3) hb3
      · cases e
    · cases e
  · cases e
theorem Fits.lamc1 {k : Nat} {c : Ctx} {X : Cx} (h : Fits k c X) (hc : c.calm = true) {P : Addr} {q : Str} (hl : c.lam = some (P, q)) (scope : Scope) (s : Shared) (H : Hp) (f c' : Addr) : Fits k (c.lamc scope) (lamX X X.A.in1 q s H scope f c') := by
  have sk := h.sk P q hl
  have hd := h.hd (h.calm hc)
  obtain ⟨⟨T, rfl⟩, h2, h3, h4, _, _⟩ := h
  exact ⟨⟨(T.1, none), rfl⟩, ⟨by have := sk.dp; show X.A.depth + 1 + 3 * k + 5 < _; omega, by have := sk.un; show X.A.units + 1 + 3 + 16 * k + 200 < _; omega⟩, fun _ => hd, h4, fun _ _ z => (by cases z), fun _ _ z => (by cases z)⟩
section
variable {k : Nat} {c : Ctx} {P : Addr} {q y : Str} {iy : Nat} {params : Arguments} {body a : Expr} {scope : Scope} {f g : Ex} {p pos kp lp : Pos}
theorem se_minKey (L : LamP c.N c.sc scope params y iy) (hlm : c.lam = some (P, q)) (hmT : (P, q) ∈ c.g.T) (hu : ∀ p ∈ c.g.T, p.1 = P → p.2 = q) (hg : c.sc.names.lookup (Str.ofString "min") = some .globalImplicit) (hm : c.g.mg "min" = none) (h : SE k c a f) (hb : SE k (c.lamc scope) body g)
    (hdef : ∀ env, defaultsOf params env = ([], []) := by intro _; rfl) (hs : ∀ env, starEach [a] env = [(false, eval a env)] := by intro _; rfl) (hcm : c.calm = true := by rfl) :
    SE k c (.Call (.Name (Str.ofString "min") p) [a] [⟨some (Str.ofString "key"), .Lambda params body scope lp, kp⟩] pos) (xMinKey iy f g) := by
  obtain ⟨⟨t, pp, s⟩⟩ := h
  obtain ⟨⟨tb, pb, sb⟩⟩ := hb
  refine ⟨tMinKey c.g.K0 c.g.T q iy t tb, fun X hX => ?_, snd_minKey s sb⟩
  have q1 := pp X hX
  have hl := hX.lm P q hlm
  have hun := units_of hX
  have hrm := hX.rm.dp
  have hh := hX.calm hcm
  have hnd := hX.nd
  have qb := fun s H f c' => pb _ (hX.lamc1 hcm hlm scope s H f c')
  obtain ⟨⟨TT0, rfl⟩, _⟩ := hX
  exact pe_minKey L hnd hl hmT hu (hdef _) hh (by omega) (by omega) hg hm q1 qb (hs _)
end
def f_law_cell : FnD := ⟨2, 2, fun C => sSeq (sIf (tb (x2 (gLt) (xv 1) (xlenS 0))) (sRet (xsc 0 (xv 1))) (sNil))
  (sRet (xc (.int 0)))⟩
def f_law_draws_L1 (C : Calls) : SEx := sIf (tAnd (tb (x2 (gGe) (xv 0) (x2 gPow (xc (.int 10)) (xc (.int 18))))) (tb (x2 (gGt) (xv 3) (xc (.int 0))))) (sSeq (sExp (xapp 2 (x2 gMod (x1 gInt (xv 3)) (xc (.int 4096)))))
  (sSet 3 (x2 gDiv (xv 3) (xc (.int 4096))))) (sSeq (sSet 5 (x2 gMod (x1 gInt (x2 gAdd (x2 gMul (xv 0) (xc (.int 48271))) (x2 gMul (x2 gAdd (xv 4) (xc (.int 1))) (xc (.int 69621))))) (xc (.int 2147483647))))
  (sSeq (sSet 5 (x2 gMod (x1 gInt (x2 gAdd (x2 gAdd (x2 gMul (xv 5) (xv 5)) (x2 gMul (xv 5) (xc (.int 16807)))) (x2 gMul (xv 4) (xc (.int 7919))))) (xc (.int 2147483629))))
  (sSeq (sSet 5 (x2 gMod (x1 gInt (x2 gAdd (x2 gAdd (x2 gMul (xv 5) (xv 5)) (xv 0)) (x2 gMul (xc (.int 13)) (xv 4)))) (xc (.int 2147483587))))
  (sExp (xapp 2 (x2 gMod (x2 gDiv (xv 5) (xc (.int 7))) (xc (.int 4096))))))))
def f_law_draws : FnD := ⟨2, 6, fun C => sSeq (sSetO 2 (xlst (anil)))
  (sSeq (sSet 3 (xv 0))
  (sSeq (sFor (irng1 (xv 1)) (setV 4) (f_law_draws_L1 C))
  (sRet (xv 2))))⟩
def f_law_closed_c1 (C : Calls) : Ex := xlc [2] (ival (xv 1)) (setV 2) (tyes) (xv 2)
def f_law_closed_L1 (C : Calls) : SEx := sIf (tAnd (tb (x2 (gEq false) (xv 6) (xv 7))) (tb (x2 (gIn true) (xtup (acons (xv 5) (acons (xv 8) (anil)))) (xv 3)))) (sExp (xapp 3 (xtup (acons (xv 5) (acons (xv 8) (anil)))))) (sNil)
def f_law_closed_L2 (C : Calls) : SEx := sFor (ival (x1 gList (xv 3))) (setT 2 (gsCons (setV 7) (gsCons (setV 8) (gsNil)))) (f_law_closed_L1 C)
def f_law_closed_L3 (C : Calls) : SEx := sFor (ival (x1 gList (xv 3))) (setT 2 (gsCons (setV 5) (gsCons (setV 6) (gsNil)))) (f_law_closed_L2 C)
def f_law_closed_L4 (C : Calls) : SEx := sIf (tb (x2 (gIn true) (xv 2) (xv 9))) (sExp (xapp 9 (xv 2))) (sNil)
def f_law_closed : FnD := ⟨2, 10, fun C => sSeq (sSetO 3 (f_law_closed_c1 C))
  (sSeq (sFor (irng1 (xc (.int 3))) (setV 4) (f_law_closed_L3 C))
  (sSeq (sSetO 9 (xlst (anil)))
  (sSeq (sFor (ival (x1 gSort (xv 3))) (setV 2) (f_law_closed_L4 C))
  (sRet (x1 gTuple (xv 9))))))⟩
def f_law_names_L1 (C : Calls) : SEx := sSet 4 (x2 gAdd (xv 4) (xtup (acons (xpopAt 3 (x2 gMod (x1 gInt (x2 gIx (xv 0) (x2 gMod (x2 gAdd (xv 1) (xv 5)) (x1 gLen (xv 0))))) (x1 gLen (xv 3)))) (anil))))
def f_law_names : FnD := ⟨3, 6, fun C => sSeq (sSetO 3 (xlrg (rg1 (xv 2))))
  (sSeq (sSet 4 (xtup (anil)))
  (sSeq (sFor (irng1 (xv 2)) (setV 5) (f_law_names_L1 C))
  (sRet (xv 4))))⟩
def f_law_special : FnD := ⟨1, 4, fun C => sSeq (sSet 1 (xlst (acons (xtup (acons (xc (.int 1)) (acons (xtup (anil)) (anil)))) (acons (xtup (acons (xc (.int 3)) (acons (xtup (anil)) (anil)))) (acons (xtup (acons (xc (.int 4)) (acons (xtup (acons (xtup (acons (xc (.int 0)) (acons (xc (.int 1)) (anil)))) (acons (xtup (acons (xc (.int 1)) (acons (xc (.int 2)) (anil)))) (acons (xtup (acons (xc (.int 2)) (acons (xc (.int 3)) (anil)))) (anil))))) (anil)))) (acons (xtup (acons (xc (.int 4)) (acons (xtup (acons (xtup (acons (xc (.int 0)) (acons (xc (.int 2)) (anil)))) (acons (xtup (acons (xc (.int 1)) (acons (xc (.int 2)) (anil)))) (acons (xtup (acons (xc (.int 1)) (acons (xc (.int 3)) (anil)))) (anil))))) (anil)))) (acons (xtup (acons (xc (.int 4)) (acons (xtup (acons (xtup (acons (xc (.int 0)) (acons (xc (.int 1)) (anil)))) (acons (xtup (acons (xc (.int 2)) (acons (xc (.int 3)) (anil)))) (anil)))) (anil)))) (acons (xtup (acons (xc (.int 4)) (acons (xtup (acons (xtup (acons (xc (.int 0)) (acons (xc (.int 1)) (anil)))) (acons (xtup (acons (xc (.int 1)) (acons (xc (.int 2)) (anil)))) (anil)))) (anil)))) (anil)))))))))
  (sSeq (sSet 1 (x2 gAdd (xv 1) (xlst (acons (xtup (acons (xc (.int 6)) (acons (xtup (acons (xtup (acons (xc (.int 0)) (acons (xc (.int 4)) (anil)))) (acons (xtup (acons (xc (.int 0)) (acons (xc (.int 5)) (anil)))) (acons (xtup (acons (xc (.int 1)) (acons (xc (.int 3)) (anil)))) (acons (xtup (acons (xc (.int 1)) (acons (xc (.int 5)) (anil)))) (acons (xtup (acons (xc (.int 2)) (acons (xc (.int 3)) (anil)))) (acons (xtup (acons (xc (.int 2)) (acons (xc (.int 4)) (anil)))) (anil)))))))) (anil)))) (acons (xtup (acons (xc (.int 5)) (acons (xtup (acons (xtup (acons (xc (.int 0)) (acons (xc (.int 1)) (anil)))) (acons (xtup (acons (xc (.int 0)) (acons (xc (.int 2)) (anil)))) (acons (xtup (acons (xc (.int 0)) (acons (xc (.int 3)) (anil)))) (acons (xtup (acons (xc (.int 0)) (acons (xc (.int 4)) (anil)))) (acons (xtup (acons (xc (.int 1)) (acons (xc (.int 4)) (anil)))) (acons (xtup (acons (xc (.int 2)) (acons (xc (.int 4)) (anil)))) (acons (xtup (acons (xc (.int 3)) (acons (xc (.int 4)) (anil)))) (anil))))))))) (anil)))) (anil))))))
  (sSeq (sSet 1 (x2 gAdd (xv 1) (xlst (acons (xtup (acons (xc (.int 5)) (acons (xtup (acons (xtup (acons (xc (.int 0)) (acons (xc (.int 1)) (anil)))) (acons (xtup (acons (xc (.int 0)) (acons (xc (.int 2)) (anil)))) (acons (xtup (acons (xc (.int 0)) (acons (xc (.int 3)) (anil)))) (acons (xtup (acons (xc (.int 0)) (acons (xc (.int 4)) (anil)))) (acons (xtup (acons (xc (.int 1)) (acons (xc (.int 2)) (anil)))) (acons (xtup (acons (xc (.int 1)) (acons (xc (.int 4)) (anil)))) (acons (xtup (acons (xc (.int 2)) (acons (xc (.int 4)) (anil)))) (acons (xtup (acons (xc (.int 3)) (acons (xc (.int 4)) (anil)))) (anil)))))))))) (anil)))) (acons (xtup (acons (xc (.int 4)) (acons (xtup (acons (xtup (acons (xc (.int 0)) (acons (xc (.int 1)) (anil)))) (acons (xtup (acons (xc (.int 0)) (acons (xc (.int 2)) (anil)))) (acons (xtup (acons (xc (.int 1)) (acons (xc (.int 3)) (anil)))) (acons (xtup (acons (xc (.int 2)) (acons (xc (.int 3)) (anil)))) (anil)))))) (anil)))) (anil))))))
  (sSeq (sSet 1 (x2 gAdd (xv 1) (xlst (acons (xtup (acons (xc (.int 6)) (acons (xtup (acons (xtup (acons (xc (.int 0)) (acons (xc (.int 1)) (anil)))) (acons (xtup (acons (xc (.int 0)) (acons (xc (.int 2)) (anil)))) (acons (xtup (acons (xc (.int 1)) (acons (xc (.int 3)) (anil)))) (acons (xtup (acons (xc (.int 1)) (acons (xc (.int 4)) (anil)))) (acons (xtup (acons (xc (.int 2)) (acons (xc (.int 4)) (anil)))) (acons (xtup (acons (xc (.int 2)) (acons (xc (.int 5)) (anil)))) (anil)))))))) (anil)))) (acons (xtup (acons (xc (.int 5)) (acons (xtup (acons (xtup (acons (xc (.int 0)) (acons (xc (.int 2)) (anil)))) (acons (xtup (acons (xc (.int 0)) (acons (xc (.int 3)) (anil)))) (acons (xtup (acons (xc (.int 1)) (acons (xc (.int 2)) (anil)))) (acons (xtup (acons (xc (.int 1)) (acons (xc (.int 3)) (anil)))) (acons (xtup (acons (xc (.int 2)) (acons (xc (.int 4)) (anil)))) (acons (xtup (acons (xc (.int 3)) (acons (xc (.int 4)) (anil)))) (anil)))))))) (anil)))) (anil))))))
  (sSeq (sAsg (setT 2 (gsCons (setV 2) (gsCons (setV 3) (gsNil)))) (x2 gIx (xv 1) (x2 gMod (xv 0) (x1 gLen (xv 1)))))
  (sRet (xtup (acons (xv 2) (acons (xcall C (Str.ofString "_law_closed") (acons (xv 2) (acons (xv 3) (anil)))) (anil)))))))))⟩
def f_law_order_L1 (C : Calls) : SEx := sSeq (sIf (tb (x2 (gEq false) (x2 gMod (x2 gDiv (x1 gInt (x2 gIx (xv 0) (x2 gMod (xv 7) (x1 gLen (xv 0))))) (x2 gAdd (xc (.int 1)) (x2 gDiv (xv 7) (x1 gLen (xv 0))))) (xv 5)) (xc (.int 0)))) (sExp (xapp 6 (xtup (acons (x2 gIx (xv 4) (xv 9)) (acons (x2 gIx (xv 4) (xv 8)) (anil)))))) (sNil))
  (sSet 7 (x2 gAdd (xv 7) (xc (.int 1))))
def f_law_order_L2 (C : Calls) : SEx := sFor (irng1 (xv 8)) (setV 9) (f_law_order_L1 C)
def f_law_order : FnD := ⟨2, 10, fun C => sSeq (sSet 2 (x2 gAdd (xc (.int 1)) (x2 gMod (x1 gInt (x2 gIx (xv 0) (xc (.int 0)))) (xv 1))))
  (sSeq (sIf (tb (x2 (gEq false) (x2 gMod (x2 gIx (xv 0) (xc (.int 1))) (xc (.int 6))) (xc (.int 1)))) (sSeq (sSet 3 (xcall C (Str.ofString "_law_special") (acons (x1 gInt (x2 gIx (xv 0) (xc (.int 2)))) (anil))))
  (sIf (tb (x2 (gLe) (x2 gIx (xv 3) (xc (.int 0))) (xv 1))) (sRet (xv 3)) (sNil))) (sNil))
  (sSeq (sSet 4 (xcall C (Str.ofString "_law_names") (acons (xv 0) (acons (xc (.int 3)) (acons (xv 2) (anil))))))
  (sSeq (sSet 5 (x2 gIx (xlst (acons (xc (.int 2)) (acons (xc (.int 3)) (acons (xc (.int 5)) (acons (xc (.int 8)) (anil)))))) (x2 gMod (x2 gDiv (x1 gInt (x2 gIx (xv 0) (xc (.int 1)))) (xc (.int 6))) (xc (.int 4)))))
  (sSeq (sSetO 6 (xlst (anil)))
  (sSeq (sSet 7 (xc (.int 12)))
  (sSeq (sFor (irng1 (xv 2)) (setV 8) (f_law_order_L2 C))
  (sRet (xtup (acons (xv 2) (acons (xcall C (Str.ofString "_law_closed") (acons (xv 2) (acons (xv 6) (anil)))) (anil)))))))))))⟩
def f_o_under_c1 (C : Calls) : Ex := xlc [2] (irng1 (x2 gIx (xv 0) (xc (.int 0)))) (setV 2) (tb (x2 (gIn false) (xtup (acons (xv 2) (acons (xv 1) (anil)))) (x2 gIx (xv 0) (xc (.int 1))))) (xv 2)
def f_o_under : FnD := ⟨2, 3, fun C => sRet (x1 gTuple (f_o_under_c1 C))⟩
def f_law_kind : FnD := ⟨1, 1, fun C => sSeq (sIf (tt (x1 (gIsi .bool) (xv 0))) (sRet (xc (.int 1))) (sNil))
  (sSeq (sIf (tt (x1 (gIsi .int) (xv 0))) (sRet (xc (.int 2))) (sNil))
  (sSeq (sIf (tt (x1 (gIsi .str) (xv 0))) (sRet (xc (.int 3))) (sNil))
  (sSeq (sIf (tt (x1 (gIsi .tuple) (xv 0))) (sRet (xc (.int 4))) (sNil))
  (sSeq (sIf (tt (x1 (gIsi .list) (xv 0))) (sRet (xc (.int 5))) (sNil))
  (sSeq (sIf (tt (x1 (gIsi .dict) (xv 0))) (sRet (xc (.int 6))) (sNil))
  (sRet (xc (.int 0))))))))⟩
def f_law_equal_c1 (C : Calls) : Ex := xlc [3] (irng1 (x1 gLen (xv 1))) (setV 3) (tNot (tt (xcall C (Str.ofString "_law_equal") (acons (x2 gIx (xv 0) (xv 3)) (acons (x2 gIx (xv 1) (xv 3)) (anil)))))) (xv 3)
def f_law_equal_c2 (C : Calls) : Ex := xlc [4] (ival (xv 1)) (setV 4) (tAnd (tb (x2 (gEq false) (xv 4) (xv 2))) (tt (xcall C (Str.ofString "_law_equal") (acons (xv 2) (acons (xv 4) (anil)))))) (xv 4)
def f_law_equal_L1 (C : Calls) : SEx := sSeq (sIf (tOr (tb (x2 (gIn true) (xv 2) (xv 1))) (tNot (tt (xcall C (Str.ofString "_law_equal") (acons (x2 gIx (xv 0) (xv 2)) (acons (x2 gIx (xv 1) (xv 2)) (anil))))))) (sRet (xc (.bool false))) (sNil))
  (sIf (tb (x2 (gEq false) (x1 gLen (f_law_equal_c2 C)) (xc (.int 0)))) (sRet (xc (.bool false))) (sNil))
def f_law_equal : FnD := ⟨2, 5, fun C => sSeq (sIf (tb (x2 (gEq true) (xcall C (Str.ofString "_law_kind") (acons (xv 0) (anil))) (xcall C (Str.ofString "_law_kind") (acons (xv 1) (anil))))) (sRet (xc (.bool false))) (sNil))
  (sSeq (sIf (tOr (tt (x1 (gIsi .tuple) (xv 1))) (tt (x1 (gIsi .list) (xv 1)))) (sSeq (sIf (tb (x2 (gEq true) (x1 gLen (xv 0)) (x1 gLen (xv 1)))) (sRet (xc (.bool false))) (sNil))
  (sRet (x2 (gEq false) (x1 gLen (f_law_equal_c1 C)) (xc (.int 0))))) (sNil))
  (sSeq (sIf (tt (x1 (gIsi .dict) (xv 1))) (sSeq (sIf (tb (x2 (gEq true) (x1 gLen (xv 0)) (x1 gLen (xv 1)))) (sRet (xc (.bool false))) (sNil))
  (sSeq (sFor (ival (xv 0)) (setV 2) (f_law_equal_L1 C))
  (sRet (xc (.bool true))))) (sNil))
  (sRet (x2 (gEq false) (xv 0) (xv 1)))))⟩
def f_law_renamed_c1 (C : Calls) : Ex := xlc [2, 3] (ival (x2 gIx (xv 0) (xc (.int 1)))) (setT 2 (gsCons (setV 2) (gsCons (setV 3) (gsNil)))) (tyes) (xtup (acons (x2 gIx (xv 1) (xv 2)) (acons (x2 gIx (xv 1) (xv 3)) (anil))))
def f_law_renamed : FnD := ⟨2, 4, fun C => sRet (xtup (acons (x2 gIx (xv 0) (xc (.int 0))) (acons (x1 gTuple (x1 gSort (f_law_renamed_c1 C))) (anil))))⟩
def f_o_link_L1 (C : Calls) : SEx := sIf (tAnd (tb (x2 (gIn false) (xtup (acons (xv 1) (acons (xv 4) (anil)))) (x2 gIx (xv 0) (xc (.int 1))))) (tb (x2 (gIn true) (xv 4) (xv 2)))) (sSeq (sExp (xapp 2 (xv 4)))
  (sIf (tOr (tb (x2 (gIs false) (x2 gIx (xv 3) (xv 4)) (xc .none))) (tt (xcall C (Str.ofString "link") (acons (xv 0) (acons (x2 gIx (xv 3) (xv 4)) (acons (xv 2) (acons (xv 3) (anil)))))))) (sSeq (sPut 3 (xv 4) (xv 1))
  (sRet (xc (.bool true)))) (sNil))) (sNil)
def f_o_link : FnD := ⟨4, 5, fun C => sSeq (sFor (irng1 (x2 gIx (xv 0) (xc (.int 0)))) (setV 4) (f_o_link_L1 C))
  (sRet (xc (.bool false)))⟩
def f_o_free_items_c1 (C : Calls) : Ex := xlc [3] (irng1 (x2 gIx (xv 0) (xc (.int 0)))) (setV 3) (tb (x2 (gIn true) (xv 3) (xv 1))) (xv 3)
def f_o_free_items_c2 (C : Calls) : Ex := xlc [4] (ival (xcall C (Str.ofString "under") (acons (xv 0) (acons (xv 3) (anil))))) (setV 4) (tyes) (x2 (gIn false) (xv 4) (xv 1))
def f_o_free_items_c3 (C : Calls) : Ex := xlc [3] (ival (xv 2)) (setV 3) (tt (x1 gAll (f_o_free_items_c2 C))) (xv 3)
def f_o_free_items : FnD := ⟨2, 5, fun C => sSeq (sSet 2 (f_o_free_items_c1 C))
  (sRet (f_o_free_items_c3 C))⟩
def f_o_add_lines_L1 (C : Calls) : SEx := sExp (xcall C (Str.ofString "add_lines") (acons (xv 0) (acons (x2 gAdd (xv 1) (xtup (acons (xv 3) (anil)))) (acons (xv 2) (anil)))))
def f_o_add_lines : FnD := ⟨3, 4, fun C => sSeq (sIf (tb (x2 (gEq false) (x1 gLen (xv 1)) (x2 gIx (xv 0) (xc (.int 0))))) (sExp (xapp 2 (xv 1))) (sNil))
  (sFor (ival (xcall C (Str.ofString "free_items") (acons (xv 0) (acons (xv 1) (anil))))) (setV 3) (f_o_add_lines_L1 C))⟩
def f_o_lines : FnD := ⟨1, 2, fun C => sSeq (sSetO 1 (xlst (anil)))
  (sSeq (sExp (xcall C (Str.ofString "add_lines") (acons (xv 0) (acons (xtup (anil)) (acons (xv 1) (anil))))))
  (sRet (xv 1)))⟩
def f_o_ways_from_c1 (C : Calls) : Ex := xlc [4] (ival (xcall C (Str.ofString "free_items") (acons (xv 0) (acons (xv 1) (anil))))) (setV 4) (tyes) (x1 gTuple (x1 gSort (x2 gAdd (xv 1) (xtup (acons (xv 4) (anil))))))
def f_o_ways_from_c2 (C : Calls) : Ex := xlc [5] (ival (xv 3)) (setV 5) (tyes) (xcall C (Str.ofString "ways_from") (acons (xv 0) (acons (xv 5) (acons (xv 2) (anil)))))
def f_o_ways_from : FnD := ⟨3, 6, fun C => sSeq (sIf (tsXIn true 2 (xv 1)) (sIf (tb (x2 (gEq false) (x1 gLen (xv 1)) (x2 gIx (xv 0) (xc (.int 0))))) (sXPut 2 (xv 1) (xc (.int 1))) (sSeq (sSet 3 (f_o_ways_from_c1 C))
  (sXPut 2 (xv 1) (x1 gSum (f_o_ways_from_c2 C))))) (sNil))
  (sRet (xXGet 2 (xv 1)))⟩
def f_law_lines_c1 (C : Calls) : Ex := xlc [6, 7] (ival (x2 gIx (xv 0) (xc (.int 1)))) (setT 2 (gsCons (setV 6) (gsCons (setV 7) (gsNil)))) (tAnd (tb (x2 (gEq false) (xv 7) (xv 5))) (tb (x2 (gIn true) (xv 6) (xv 4)))) (xv 6)
def f_law_lines_L1 (C : Calls) : SEx := sIf (tAnd (tb (x2 (gIn true) (xv 5) (xv 4))) (tb (x2 (gEq false) (x1 gLen (f_law_lines_c1 C)) (xc (.int 0))))) (sExp (xapp 3 (x2 gAdd (xv 4) (xtup (acons (xv 5) (anil)))))) (sNil)
def f_law_lines_L2 (C : Calls) : SEx := sFor (irng1 (x2 gIx (xv 0) (xc (.int 0)))) (setV 5) (f_law_lines_L1 C)
def f_law_lines_L3 (C : Calls) : SEx := sSeq (sSetO 3 (xlst (anil)))
  (sSeq (sFor (ival (xv 1)) (setV 4) (f_law_lines_L2 C))
  (sSet 1 (xmv 3)))
def f_law_lines : FnD := ⟨1, 8, fun C => sSeq (sSet 1 (xlst (acons (xtup (anil)) (anil))))
  (sSeq (sFor (irng1 (x2 gIx (xv 0) (xc (.int 0)))) (setV 2) (f_law_lines_L3 C))
  (sRet (xv 1)))⟩
def f_o_jumps_c1 (C : Calls) : Ex := xlc [2] (irng1 (x2 gSub (x1 gLen (xv 1)) (xc (.int 1)))) (setV 2) (tb (x2 (gIn true) (xtup (acons (x2 gIx (xv 1) (xv 2)) (acons (x2 gIx (xv 1) (x2 gAdd (xv 2) (xc (.int 1)))) (anil)))) (x2 gIx (xv 0) (xc (.int 1))))) (xv 2)
def f_o_jumps : FnD := ⟨2, 3, fun C => sRet (x1 gLen (f_o_jumps_c1 C))⟩
def f_o_calm_line : FnD := ⟨1, 2, fun C => sRet (xMinKey 1 (xcall C (Str.ofString "lines") (acons (xv 0) (anil))) (xtup (acons (xcall C (Str.ofString "jumps") (acons (xv 0) (acons (xv 1) (anil)))) (acons (xv 1) (anil)))))⟩
def f_law_lattice : FnD := ⟨1, 4, fun C => sSeq (sSet 1 (xlst (acons (xtup (acons (xc (.int 5)) (acons (xtup (acons (xtup (acons (xc (.int 0)) (acons (xc (.int 1)) (anil)))) (acons (xtup (acons (xc (.int 0)) (acons (xc (.int 2)) (anil)))) (acons (xtup (acons (xc (.int 0)) (acons (xc (.int 3)) (anil)))) (acons (xtup (acons (xc (.int 1)) (acons (xc (.int 4)) (anil)))) (acons (xtup (acons (xc (.int 2)) (acons (xc (.int 4)) (anil)))) (acons (xtup (acons (xc (.int 3)) (acons (xc (.int 4)) (anil)))) (anil)))))))) (anil)))) (acons (xtup (acons (xc (.int 5)) (acons (xtup (acons (xtup (acons (xc (.int 0)) (acons (xc (.int 1)) (anil)))) (acons (xtup (acons (xc (.int 1)) (acons (xc (.int 2)) (anil)))) (acons (xtup (acons (xc (.int 0)) (acons (xc (.int 3)) (anil)))) (acons (xtup (acons (xc (.int 2)) (acons (xc (.int 4)) (anil)))) (acons (xtup (acons (xc (.int 3)) (acons (xc (.int 4)) (anil)))) (anil))))))) (anil)))) (acons (xtup (acons (xc (.int 4)) (acons (xtup (acons (xtup (acons (xc (.int 0)) (acons (xc (.int 1)) (anil)))) (acons (xtup (acons (xc (.int 0)) (acons (xc (.int 2)) (anil)))) (acons (xtup (acons (xc (.int 1)) (acons (xc (.int 3)) (anil)))) (acons (xtup (acons (xc (.int 2)) (acons (xc (.int 3)) (anil)))) (anil)))))) (anil)))) (anil))))))
  (sSeq (sSet 1 (x2 gAdd (xv 1) (xlst (acons (xtup (acons (xc (.int 8)) (acons (xtup (acons (xtup (acons (xc (.int 0)) (acons (xc (.int 1)) (anil)))) (acons (xtup (acons (xc (.int 0)) (acons (xc (.int 2)) (anil)))) (acons (xtup (acons (xc (.int 0)) (acons (xc (.int 4)) (anil)))) (acons (xtup (acons (xc (.int 1)) (acons (xc (.int 3)) (anil)))) (acons (xtup (acons (xc (.int 1)) (acons (xc (.int 5)) (anil)))) (acons (xtup (acons (xc (.int 2)) (acons (xc (.int 3)) (anil)))) (acons (xtup (acons (xc (.int 2)) (acons (xc (.int 6)) (anil)))) (acons (xtup (acons (xc (.int 3)) (acons (xc (.int 7)) (anil)))) (acons (xtup (acons (xc (.int 4)) (acons (xc (.int 5)) (anil)))) (acons (xtup (acons (xc (.int 4)) (acons (xc (.int 6)) (anil)))) (acons (xtup (acons (xc (.int 5)) (acons (xc (.int 7)) (anil)))) (acons (xtup (acons (xc (.int 6)) (acons (xc (.int 7)) (anil)))) (anil)))))))))))))) (anil)))) (anil)))))
  (sSeq (sSet 1 (x2 gAdd (xv 1) (xlst (acons (xtup (acons (xc (.int 6)) (acons (xtup (acons (xtup (acons (xc (.int 0)) (acons (xc (.int 1)) (anil)))) (acons (xtup (acons (xc (.int 0)) (acons (xc (.int 2)) (anil)))) (acons (xtup (acons (xc (.int 1)) (acons (xc (.int 3)) (anil)))) (acons (xtup (acons (xc (.int 2)) (acons (xc (.int 3)) (anil)))) (acons (xtup (acons (xc (.int 2)) (acons (xc (.int 4)) (anil)))) (acons (xtup (acons (xc (.int 3)) (acons (xc (.int 5)) (anil)))) (acons (xtup (acons (xc (.int 4)) (acons (xc (.int 5)) (anil)))) (anil))))))))) (anil)))) (acons (xtup (acons (xc (.int 6)) (acons (xtup (acons (xtup (acons (xc (.int 0)) (acons (xc (.int 1)) (anil)))) (acons (xtup (acons (xc (.int 0)) (acons (xc (.int 2)) (anil)))) (acons (xtup (acons (xc (.int 0)) (acons (xc (.int 3)) (anil)))) (acons (xtup (acons (xc (.int 1)) (acons (xc (.int 4)) (anil)))) (acons (xtup (acons (xc (.int 2)) (acons (xc (.int 4)) (anil)))) (acons (xtup (acons (xc (.int 3)) (acons (xc (.int 4)) (anil)))) (acons (xtup (acons (xc (.int 4)) (acons (xc (.int 5)) (anil)))) (anil))))))))) (anil)))) (anil))))))
  (sSeq (sSet 1 (x2 gAdd (xv 1) (xlst (acons (xtup (acons (xc (.int 7)) (acons (xtup (acons (xtup (acons (xc (.int 0)) (acons (xc (.int 1)) (anil)))) (acons (xtup (acons (xc (.int 1)) (acons (xc (.int 2)) (anil)))) (acons (xtup (acons (xc (.int 1)) (acons (xc (.int 3)) (anil)))) (acons (xtup (acons (xc (.int 2)) (acons (xc (.int 4)) (anil)))) (acons (xtup (acons (xc (.int 3)) (acons (xc (.int 4)) (anil)))) (acons (xtup (acons (xc (.int 4)) (acons (xc (.int 5)) (anil)))) (acons (xtup (acons (xc (.int 5)) (acons (xc (.int 6)) (anil)))) (anil))))))))) (anil)))) (acons (xtup (acons (xc (.int 1)) (acons (xtup (anil)) (anil)))) (acons (xtup (acons (xc (.int 3)) (acons (xtup (acons (xtup (acons (xc (.int 0)) (acons (xc (.int 1)) (anil)))) (acons (xtup (acons (xc (.int 1)) (acons (xc (.int 2)) (anil)))) (anil)))) (anil)))) (acons (xtup (acons (xc (.int 6)) (acons (xtup (acons (xtup (acons (xc (.int 0)) (acons (xc (.int 1)) (anil)))) (acons (xtup (acons (xc (.int 0)) (acons (xc (.int 2)) (anil)))) (acons (xtup (acons (xc (.int 1)) (acons (xc (.int 3)) (anil)))) (acons (xtup (acons (xc (.int 2)) (acons (xc (.int 4)) (anil)))) (acons (xtup (acons (xc (.int 3)) (acons (xc (.int 5)) (anil)))) (acons (xtup (acons (xc (.int 4)) (acons (xc (.int 5)) (anil)))) (anil)))))))) (anil)))) (anil))))))))
  (sSeq (sSet 1 (x2 gAdd (xv 1) (xlst (acons (xtup (acons (xc (.int 7)) (acons (xtup (acons (xtup (acons (xc (.int 0)) (acons (xc (.int 1)) (anil)))) (acons (xtup (acons (xc (.int 0)) (acons (xc (.int 2)) (anil)))) (acons (xtup (acons (xc (.int 0)) (acons (xc (.int 3)) (anil)))) (acons (xtup (acons (xc (.int 1)) (acons (xc (.int 4)) (anil)))) (acons (xtup (acons (xc (.int 2)) (acons (xc (.int 4)) (anil)))) (acons (xtup (acons (xc (.int 2)) (acons (xc (.int 5)) (anil)))) (acons (xtup (acons (xc (.int 3)) (acons (xc (.int 5)) (anil)))) (acons (xtup (acons (xc (.int 4)) (acons (xc (.int 6)) (anil)))) (acons (xtup (acons (xc (.int 5)) (acons (xc (.int 6)) (anil)))) (anil))))))))))) (anil)))) (acons (xtup (acons (xc (.int 6)) (acons (xtup (acons (xtup (acons (xc (.int 0)) (acons (xc (.int 1)) (anil)))) (acons (xtup (acons (xc (.int 0)) (acons (xc (.int 2)) (anil)))) (acons (xtup (acons (xc (.int 0)) (acons (xc (.int 3)) (anil)))) (acons (xtup (acons (xc (.int 0)) (acons (xc (.int 4)) (anil)))) (acons (xtup (acons (xc (.int 1)) (acons (xc (.int 5)) (anil)))) (acons (xtup (acons (xc (.int 2)) (acons (xc (.int 5)) (anil)))) (acons (xtup (acons (xc (.int 3)) (acons (xc (.int 5)) (anil)))) (acons (xtup (acons (xc (.int 4)) (acons (xc (.int 5)) (anil)))) (anil)))))))))) (anil)))) (anil))))))
  (sSeq (sAsg (setT 2 (gsCons (setV 2) (gsCons (setV 3) (gsNil)))) (x2 gIx (xv 1) (x2 gMod (x1 gInt (x2 gIx (xv 0) (xc (.int 0)))) (x1 gLen (xv 1)))))
  (sRet (xcall C (Str.ofString "_law_renamed") (acons (xtup (acons (xv 2) (acons (xcall C (Str.ofString "_law_closed") (acons (xv 2) (acons (xv 3) (anil)))) (anil)))) (acons (xcall C (Str.ofString "_law_names") (acons (xv 0) (acons (xc (.int 3)) (acons (xv 2) (anil))))) (anil))))))))))⟩
section
variable {ρ : En} {i j : Nat} {f f1 f2 f3 : Ex} {fs : AEx} {g g1 g2 : SEx} {t t1 t2 : Tst} {d e : D}
def slO : Option D → Sl
  | none => .un
  | some d => .v d
@[simp] theorem slO_none : slO none = .un := (rfl)
theorem slO_some : slO (some d) = .v d := rfl
def okSet : Sl → Bool
  | .un => true
  | .v _ => true
  | .o false _ => true
  | .r _ => true
  | _ => false
@[simp] theorem okSet_un : okSet .un = true := (rfl)
@[simp] theorem okSet_v : okSet (.v d) = true := (rfl)
@[simp] theorem okSet_o {c : Ct} : okSet (.o false c) = true := (rfl)
@[simp] theorem okSet_r {ns : List Int} : okSet (.r ns) = true := (rfl)
@[simp] theorem okSet_slO {o : Option D} : okSet (slO o) = true := by cases o <;> rfl
@[simp] theorem e_setV {d : D} : setV i d ρ = if (ρ[i]?).elim false okSet = true then some (ρ.set i (.v d)) else none := by
  unfold setV
  cases h : ρ[i]? with
  | none => simp
  | some s => cases s with
    | o b c => cases b <;> simp [okSet]
    | _ => simp [okSet]
def okSetO : Sl → Bool
  | .un => true
  | .v _ => true
  | .o false _ => true
  | _ => false
@[simp] theorem okSetO_un : okSetO .un = true := (rfl)
@[simp] theorem okSetO_v : okSetO (.v d) = true := (rfl)
@[simp] theorem okSetO_o {c : Ct} : okSetO (.o false c) = true := (rfl)
@[simp] theorem okSetO_slO {o : Option D} : okSetO (slO o) = true := by cases o <;> rfl
@[simp] theorem e_setO {c : Ct} : setO i c ρ = if (ρ[i]?).elim false okSetO = true then some (ρ.set i (.o false c)) else none := by
  unfold setO
  cases h : ρ[i]? with
  | none => simp
  | some s => cases s with
    | o b c => cases b <;> simp [okSetO]
    | _ => simp [okSetO]
@[simp] theorem e_xv : xv i ρ = match ρ[i]? with
  | some (.v d) => some (.v d, ρ)
  | some (.o _ _) => some (.sl i, ρ)
  | some (.k _ _) => some (.sl i, ρ)
  | some (.r _) => some (.sl i, ρ)
  | _ => none := (rfl)
@[simp] theorem e_xc : xc d ρ = some (.v d, ρ) := (rfl)
@[simp] theorem e_stl : stl f ρ = (f ρ).map fun p => (p.1.stl, p.2) := (rfl)
@[simp] theorem e_sv : XV.stl (.v d) = .v d := (rfl)
@[simp] theorem e_ss : XV.stl (.sl i) = .sl i := (rfl)
@[simp] theorem e_sf {ds : List D} : XV.stl (.fr (.l ds)) = .v (.list ds) := (rfl)
@[simp] theorem e_lv : look ρ (.v d) = some d := (rfl)
@[simp] theorem e_lf {ds : List D} : look ρ (.fr (.l ds)) = some (.list ds) := (rfl)
@[simp] theorem e_ls : look ρ (.sl i) = match ρ[i]? with
  | some (.v d) => some d
  | some (.o _ (.l ds)) => some (.list ds)
  | some (.k _ (.l ds)) => some (.list ds)
  | _ => none := (rfl)
@[simp] theorem e_x1 {g : D → Option XV} : x1 g f ρ = (f ρ).bind fun p => (look p.2 p.1).bind fun d => (g d).map fun z => (z, p.2) := (rfl)
@[simp] theorem e_x2 {g : D → D → Option XV} : x2 g f1 f2 ρ = (stl f1 ρ).bind fun p => (stl f2 p.2).bind fun q => (look q.2 p.1).bind fun d => (look q.2 q.1).bind fun e => (g d e).map fun z => (z, q.2) := (rfl)
@[simp] theorem e_tb : tb f ρ = (f ρ).bind fun p => match p.1 with
  | .v (.bool b) => some (b, p.2)
  | _ => none := (rfl)
@[simp] theorem e_tt : tt f ρ = (f ρ).bind fun p => (look p.2 p.1).bind fun d => (truth d).map fun b => (b, p.2) := (rfl)
@[simp] theorem e_tAnd : tAnd t1 t2 ρ = (t1 ρ).bind fun p => if p.1 = true then t2 p.2 else some (false, p.2) := (rfl)
@[simp] theorem e_tOr : tOr t1 t2 ρ = (t1 ρ).bind fun p => if p.1 = true then some (true, p.2) else t2 p.2 := (rfl)
@[simp] theorem e_tNot : tNot t ρ = (t ρ).map fun p => (!p.1, p.2) := (rfl)
@[simp] theorem e_tyes : tyes ρ = some (true, ρ) := (rfl)
@[simp] theorem e_xif : xif t f1 f2 ρ = (t ρ).bind fun p => if p.1 = true then f1 p.2 else f2 p.2 := (rfl)
@[simp] theorem e_xnot : xnot f ρ = (f ρ).bind fun p => xb p fun b ρ' => some (.v (.bool (!b)), ρ') := (rfl)
@[simp] theorem e_xand : xand f1 f2 ρ = (f1 ρ).bind fun p => xb p fun b ρ' => if b = true then f2 ρ' else some (.v (.bool false), ρ') := (rfl)
@[simp] theorem e_xor : xor f1 f2 ρ = (f1 ρ).bind fun p => xb p fun b ρ' => if b = true then some (.v (.bool true), ρ') else f2 ρ' := (rfl)
@[simp] theorem e_xb {b : Bool} {k : Bool → En → Option (XV × En)} : xb (.v (.bool b), ρ) k = k b ρ := (rfl)
@[simp] theorem e_xneg : xneg f ρ = (f ρ).bind fun p => match p.1 with
  | .v (.int i) => some (.v (.int (-i)), p.2)
  | _ => none := (rfl)
@[simp] theorem e_anil : anil ρ = some ([], ρ) := (rfl)
@[simp] theorem e_acons : acons f fs ρ = (stl f ρ).bind fun p => if p.1.held = true then (fs p.2).map fun q => (p.1 :: q.1, q.2) else none := (rfl)
@[simp] theorem e_hv : (XV.v d).held = true := (rfl)
@[simp] theorem e_hs : (XV.sl i).held = true := (rfl)
@[simp] theorem e_v0 : vals [] = some [] := (rfl)
@[simp] theorem e_v1 {xs : List XV} : vals (.v d :: xs) = (vals xs).map (d :: ·) := (rfl)
@[simp] theorem e_xtup : xtup fs ρ = (fs ρ).bind fun p => (vals p.1).bind fun ds => if ds.length ≤ 1000 then some (.v (.tuple ds), p.2) else none := (rfl)
@[simp] theorem e_xlst : xlst fs ρ = (fs ρ).bind fun p => (vals p.1).bind fun ds => if ds.length ≤ 1000 then some (.fr (.l ds), p.2) else none := (rfl)
@[simp] theorem e_xsc : xsc i f ρ = match ρ[i]? with
  | some (.r ns) => (f ρ).bind fun p => match p.1 with
    | .v (.int j) => (atI ns j).map fun n => (.v (.int n), p.2)
    | _ => none
  | _ => none := (rfl)
@[simp] theorem e_xlenS : xlenS i ρ = match ρ[i]? with
  | some (.r ns) => some (.v (.int ns.length), ρ)
  | _ => none := (rfl)
@[simp] theorem e_xapp : xapp i f ρ = match ρ[i]? with
  | some (.o _ (.l _)) => (stl f ρ).bind fun p => match p.1, p.2[i]? with
    | .v d, some (.o b (.l ds)) => if ds.length < sizeLine then some (.v .none, p.2.set i (.o b (.l (ds ++ [d])))) else none
    | _, _ => none
  | _ => none := (rfl)
@[simp] theorem e_xext : xext i f ρ = match ρ[i]? with
  | some (.o _ (.l _)) => (f ρ).bind fun p => match look p.2 p.1, p.2[i]? with
    | some (.list es), some (.o b (.l ds)) => if ds.length + es.length ≤ sizeLine then some (.v .none, p.2.set i (.o b (.l (ds ++ es)))) else none
    | _, _ => none
  | _ => none := (rfl)
@[simp] theorem e_xpop : xpop i ρ = match ρ[i]? with
  | some (.o b (.l ds)) => (ds[ds.length - 1]?).map fun d => (.v d, ρ.set i (.o b (.l ds.dropLast)))
  | _ => none := (rfl)
@[simp] theorem e_xpopAt : xpopAt i f ρ = match ρ[i]? with
  | some (.o _ (.l _)) => (f ρ).bind fun p => match p.1, p.2[i]? with
    | .v (.int j), some (.o b (.l ds)) => (ixN ds.length j).bind fun k => (ds[k]?).map fun d => (.v d, p.2.set i (.o b (.l (ds.eraseIdx k))))
    | _, _ => none
  | _ => none := (rfl)
@[simp] theorem e_xsl {lo hi : OEx} : xsl f lo hi ρ = (stl f ρ).bind fun p => (lo p.2).bind fun l => (hi l.2).bind fun h => (look h.2 p.1).bind fun d => (gSl l.1 h.1 d).map fun z => (z, h.2) := (rfl)
@[simp] theorem e_onone : onone ρ = some (none, ρ) := (rfl)
@[simp] theorem e_osome : osome f ρ = (f ρ).bind fun p => match p.1 with
  | .v (.int j) => some (some j, p.2)
  | _ => none := (rfl)
@[simp] theorem e_xch {g g' : D → D → Option XV} : xch g g' f1 f2 f3 ρ = (stl f1 ρ).bind fun p => (stl f2 p.2).bind fun q => (look q.2 p.1).bind fun d => (look q.2 q.1).bind fun e => (g d e).bind fun z =>
  xb (z, q.2) fun b ρ2 => if b = true then (stl f3 ρ2).bind fun r => (look r.2 q.1).bind fun e' => (look r.2 r.1).bind fun d' => (g' e' d').map fun z' => (z', r.2) else some (.v (.bool false), ρ2) := (rfl)
@[simp] theorem e_sNil : sNil ρ = some (.nx, ρ) := (rfl)
@[simp] theorem e_sSeq : sSeq g1 g2 ρ = (g1 ρ).bind fun p => match p.1 with
  | .nx => g2 p.2
  | x => some (x, p.2) := (rfl)
@[simp] theorem e_sBrk : sBrk ρ = some (.bk, ρ) := (rfl)
@[simp] theorem e_sCnt : sCnt ρ = some (.ct, ρ) := (rfl)
@[simp] theorem e_sExp : sExp f ρ = (f ρ).map fun p => (.nx, p.2) := (rfl)
@[simp] theorem e_sRetN : sRetN ρ = some (.rt (.v .none), ρ) := (rfl)
@[simp] theorem e_sRet : sRet f ρ = (f ρ).bind fun p => match p.1 with
  | .v d => some (.rt (.v d), p.2)
  | .fr ct => some (.rt (.fr ct), p.2)
  | .sl i => match p.2[i]? with
    | some (.v d) => some (.rt (.v d), p.2)
    | some (.o false ct) => some (.rt (.fr ct), p.2.set i .un)
    | _ => none := (rfl)
@[simp] theorem e_sIf : sIf t g1 g2 ρ = (t ρ).bind fun p => if p.1 = true then g1 p.2 else g2 p.2 := (rfl)
@[simp] theorem e_sSet : sSet i f ρ = (stl f ρ).bind fun p => match p.1 with
  | .v d => (setV i d p.2).map fun ρ' => (.nx, ρ')
  | _ => none := (rfl)
@[simp] theorem e_sSetO : sSetO i f ρ = (f ρ).bind fun p => match p.1 with
  | .fr ct => (setO i ct p.2).map fun ρ' => (.nx, ρ')
  | _ => none := (rfl)
@[simp] theorem e_sAsg {tg : Tgt} : sAsg tg f ρ = (stl f ρ).bind fun p => match p.1 with
  | .v d => (tg d p.2).map fun ρ' => (.nx, ρ')
  | _ => none := (rfl)
@[simp] theorem e_sPar : sPar i j fs ρ = (fs ρ).bind fun p => match p.1 with
  | [.v d, .v e] => (setV i d p.2).bind fun ρ1 => (setV j e ρ1).map fun ρ2 => (.nx, ρ2)
  | _ => none := (rfl)
@[simp] theorem e_sAug {gg : D → D → Option XV} : sAug i gg f ρ = match ρ[i]? with
  | some (.v d) => (stl f ρ).bind fun p => (look p.2 p.1).bind fun e => (gg d e).bind fun z => match z with
    | .v r => (setV i r p.2).map fun ρ' => (.nx, ρ')
    | _ => none
  | _ => none := (rfl)
@[simp] theorem e_setT {n : Nat} {gs : Tgts} {ds : List D} : setT n gs (.tuple ds) ρ = if ds.length = n then gs ds ρ else none := (rfl)
@[simp] theorem e_gsN : gsNil [] ρ = some ρ := (rfl)
@[simp] theorem e_gsC {tg : Tgt} {gs : Tgts} {ds : List D} : gsCons tg gs (d :: ds) ρ = (tg d ρ).bind fun ρ1 => gs ds ρ1 := (rfl)
@[simp] theorem e_irng1 : irng1 f ρ = (f ρ).bind fun p => match p.1 with
  | .v (.int j) => if j.natAbs ≤ 1000000 then some (rngL 0 j.toNat, none, p.2) else none
  | _ => none := (rfl)
@[simp] theorem e_irng2 : irng2 f1 f2 ρ = (f1 ρ).bind fun p => match p.1 with
  | .v (.int i) => (f2 p.2).bind fun q => match q.1 with
    | .v (.int j) => if i.natAbs ≤ 1000000 ∧ j.natAbs ≤ 1000000 then some (rngL i (j - i).toNat, none, q.2) else none
    | _ => none
  | _ => none := (rfl)
@[simp] theorem e_rg1 : rg1 f ρ = (f ρ).bind fun p => match p.1 with
  | .v (.int j) => if smallI j then some ((0 : Int), j, p.2) else none
  | _ => none := (rfl)
@[simp] theorem e_rg2 : rg2 f1 f2 ρ = (f1 ρ).bind fun p => match p.1 with
  | .v (.int i) => (f2 p.2).bind fun q => match q.1 with
    | .v (.int j) => if smallI i ∧ smallI j then some (i, j, q.2) else none
    | _ => none
  | _ => none := (rfl)
@[simp] theorem e_xlrg {fr : RgEx} : xlrg fr ρ = (fr ρ).map fun p => (.fr (.l (rngL p.1 (p.2.1 - p.1).toNat)), p.2.2) := (rfl)
@[simp] theorem e_xtrg {fr : RgEx} : xtrg fr ρ = (fr ρ).map fun p => (.v (.tuple (rngL p.1 (p.2.1 - p.1).toNat)), p.2.2) := (rfl)
@[simp] theorem e_ival : ival f ρ = (f ρ).bind fun p => match p.1 with
  | .v (.list ds) => some (ds, none, p.2)
  | .v (.tuple ds) => some (ds, none, p.2)
  | .fr (.l ds) => some (ds, none, p.2)
  | .sl i => match p.2[i]? with
    | some (.o _ (.l ds)) => some (ds, some i, p.2)
    | some (.k _ (.l ds)) => some (ds, some i, p.2)
    | _ => none
  | _ => none := (rfl)
@[simp] theorem e_lk0 : lockE none ρ = ρ := (rfl)
@[simp] theorem e_lk1 : lockE (some i) ρ = match ρ[i]? with
  | some (.o b c) => ρ.set i (.k b c)
  | _ => ρ := (rfl)
@[simp] theorem e_ul0 {ρ' : En} : unlockE none ρ ρ' = ρ' := (rfl)
@[simp] theorem e_ul1 {ρ' : En} : unlockE (some i) ρ ρ' = match ρ[i]? with
  | some (.o b c) => ρ'.set i (.o b c)
  | _ => ρ' := (rfl)
@[simp] theorem e_w0 : wipeE ρ [] = ρ := (rfl)
@[simp] theorem e_w1 {v : Nat} {vs : List Nat} : wipeE ρ (v :: vs) = (wipeE ρ vs).set v .un := (rfl)
@[simp] theorem e_r0 {ρ' : En} : restE ρ [] ρ' = ρ' := (rfl)
@[simp] theorem e_r1 {ρ' : En} {v : Nat} {vs : List Nat} : restE ρ (v :: vs) ρ' = match ρ[v]? with
    | some s => (restE ρ vs ρ').set v s
    | none => restE ρ vs ρ' := (rfl)
@[simp] theorem e_lo0 {own : List Nat} : lkOut none own = true := (rfl)
@[simp] theorem e_lo1 {own : List Nat} : lkOut (some i) own = !own.contains i := (rfl)
@[simp] theorem g_addI {a b : Int} : gAdd (.int a) (.int b) = some (.v (.int (a + b))) := (rfl)
@[simp] theorem g_subI {a b : Int} : gSub (.int a) (.int b) = some (.v (.int (a - b))) := (rfl)
@[simp] theorem g_mulI {a b : Int} : gMul (.int a) (.int b) = if cMul a b = true then some (.v (.int (a * b))) else none := by
  unfold gMul gI gMulL gMulT
  simp only
  split <;> simp
@[simp] theorem g_divI {a b : Int} : gDiv (.int a) (.int b) = if 0 < b ∧ b.toNat < 1073741824 then some (.v (.int (a / b))) else none := by simp [gDiv, gI]
@[simp] theorem g_modI {a b : Int} : gMod (.int a) (.int b) = if 0 < b then some (.v (.int (a % b))) else none := by simp [gMod, gI]
@[simp] theorem g_powI {a b : Int} : gPow (.int a) (.int b) = if cPow a b = true then some (.v (.int (a ^ b.toNat))) else none := (rfl)
@[simp] theorem g_addL {a b : List D} : gAdd (.list a) (.list b) = if a.length + b.length ≤ sizeLine then some (.fr (.l (a ++ b))) else none := (rfl)
@[simp] theorem g_addT {a b : List D} : gAdd (.tuple a) (.tuple b) = if a.length + b.length ≤ sizeLine then some (.v (.tuple (a ++ b))) else none := by
  unfold gAdd gI gAddS gAddT gAddL
  simp
@[simp] theorem g_ltI {a b : Int} : gLt (.int a) (.int b) = some (.v (.bool (decide (a < b)))) := (rfl)
@[simp] theorem g_leI {a b : Int} : gLe (.int a) (.int b) = some (.v (.bool (decide (a ≤ b)))) := (rfl)
@[simp] theorem g_gtI {a b : Int} : gGt (.int a) (.int b) = some (.v (.bool (decide (b < a)))) := (rfl)
@[simp] theorem g_geI {a b : Int} : gGe (.int a) (.int b) = some (.v (.bool (decide (b ≤ a)))) := (rfl)
@[simp] theorem g_eq {neg : Bool} : gEq neg d e = if min d.depth e.depth ≤ 64 then some (.v (.bool (if neg then !PyData.eqv d e else PyData.eqv d e))) else none := (rfl)
@[simp] theorem g_inL {neg : Bool} {ds : List D} : gIn neg d (.list ds) = if d.depth ≤ 64 then some (.v (.bool (if neg then !(ds.any fun z => PyData.eqv z d) else ds.any fun z => PyData.eqv z d))) else none := by
  show ((gInD neg d ds).or _) = gInD neg d ds
  unfold gInD
  split
  · rfl
  · cases d <;> rfl
@[simp] theorem g_inT {neg : Bool} {ds : List D} : gIn neg d (.tuple ds) = if d.depth ≤ 64 then some (.v (.bool (if neg then !(ds.any fun z => PyData.eqv z d) else ds.any fun z => PyData.eqv z d))) else none := by
  show ((gInD neg d ds).or _) = gInD neg d ds
  unfold gInD
  split
  · rfl
  · cases d <;> rfl
@[simp] theorem g_isB {neg a b : Bool} : gIs neg (.bool a) (.bool b) = some (.v (.bool (if neg then !decide (a = b) else decide (a = b)))) := (rfl)
@[simp] theorem g_lenL {ds : List D} : gLen (.list ds) = some (.v (.int ds.length)) := (rfl)
@[simp] theorem g_lenT {ds : List D} : gLen (.tuple ds) = some (.v (.int ds.length)) := (rfl)
@[simp] theorem g_intI {a : Int} : gInt (.int a) = some (.v (.int a)) := (rfl)
@[simp] theorem g_intB {b : Bool} : gInt (.bool b) = some (.v (.int (if b then 1 else 0))) := (rfl)
@[simp] theorem g_tupL {ds : List D} : gTuple (.list ds) = some (.v (.tuple ds)) := (rfl)
@[simp] theorem g_tupT {ds : List D} : gTuple (.tuple ds) = some (.v (.tuple ds)) := (rfl)
@[simp] theorem g_lstL {ds : List D} : gList (.list ds) = some (.fr (.l ds)) := (rfl)
@[simp] theorem g_lstT {ds : List D} : gList (.tuple ds) = some (.fr (.l ds)) := (rfl)
@[simp] theorem g_ixL {ds : List D} {a : Int} : gIx (.list ds) (.int a) = (atI ds a).map .v := (rfl)
@[simp] theorem g_ixT {ds : List D} {a : Int} : gIx (.tuple ds) (.int a) = (atI ds a).map .v := (rfl)
@[simp] theorem g_isi {T : Ty6} : gIsi T d = some (.v (.bool (isTy T d))) := (rfl)
@[simp] theorem g_srtL {ds : List D} : gSort (.list ds) = if sortB ds = true then some (.fr (.l (srt ds))) else none := (rfl)
@[simp] theorem g_srtT {ds : List D} : gSort (.tuple ds) = if sortB ds = true then some (.fr (.l (srt ds))) else none := (rfl)
@[simp] theorem g_slL {ds : List D} {lo hi : Option Int} : gSl lo hi (.list ds) = some (.fr (.l (cutD ds lo hi))) := (rfl)
@[simp] theorem g_slT {ds : List D} {lo hi : Option Int} : gSl lo hi (.tuple ds) = some (.v (.tuple (cutD ds lo hi))) := (rfl)
@[simp] theorem g_revT {ds : List D} : gRev (.tuple ds) = some (.v (.tuple ds.reverse)) := (rfl)
@[simp] theorem t_bool {b : Bool} : truth (.bool b) = some b := (rfl)
@[simp] theorem t_int {a : Int} : truth (.int a) = some (a != 0) := (rfl)
@[simp] theorem b_nil : boolsOf [] = some [] := (rfl)
@[simp] theorem b_cons {b : Bool} {ds : List D} : boolsOf (.bool b :: ds) = (boolsOf ds).map (b :: ·) := (rfl)
@[simp] theorem g_all {ds : List D} : gAll (.list ds) = (boolsOf ds).map fun ns => .v (.bool (ns.all id)) := (rfl)
@[simp] theorem g_any {ds : List D} : gAny (.list ds) = (boolsOf ds).map fun ns => .v (.bool (ns.any id)) := (rfl)
@[simp] theorem ite_and_e {α : Type} {b c : Bool} {x : α} : (if b = true then some (c, x) else some (false, x)) = some (b && c, x) := by cases b <;> rfl
@[simp] theorem ite_or_e {α : Type} {b c : Bool} {x : α} : (if b = true then some (true, x) else some (c, x)) = some (b || c, x) := by cases b <;> rfl
@[simp] theorem ite_and_p {α : Type} {P : Prop} [Decidable P] {c : Bool} {x : α} : (if P then some (c, x) else some (false, x)) = some (decide P && c, x) := by by_cases h : P <;> simp [h]
@[simp] theorem ite_or_p {α : Type} {P : Prop} [Decidable P] {c : Bool} {x : α} : (if P then some (true, x) else some (c, x)) = some (decide P || c, x) := by by_cases h : P <;> simp [h]
@[simp] theorem ite_and_n {α : Type} {P : Prop} [Decidable P] {c : Bool} {x : α} : (if P then some (false, x) else some (c, x)) = some (!decide P && c, x) := by by_cases h : P <;> simp [h]
@[simp] theorem ite_or_n {α : Type} {P : Prop} [Decidable P] {c : Bool} {x : α} : (if P then some (c, x) else some (true, x)) = some (!decide P || c, x) := by by_cases h : P <;> simp [h]
@[simp] theorem ite_xand_n {x : En} {P : Prop} [Decidable P] {c : Bool} : (if P then some (XV.v (.bool false), x) else some (.v (.bool c), x)) = some (.v (.bool (!decide P && c)), x) := by by_cases h : P <;> simp [h]
@[simp] theorem ite_xor_n {x : En} {P : Prop} [Decidable P] {c : Bool} : (if P then some (XV.v (.bool c), x) else some (.v (.bool true), x)) = some (.v (.bool (!decide P || c)), x) := by by_cases h : P <;> simp [h]
@[simp] theorem ite_xand_p {x : En} {P : Prop} [Decidable P] {c : Bool} : (if P then some (XV.v (.bool c), x) else some (.v (.bool false), x)) = some (.v (.bool (decide P && c)), x) := by by_cases h : P <;> simp [h]
@[simp] theorem ite_xor_p {x : En} {P : Prop} [Decidable P] {c : Bool} : (if P then some (XV.v (.bool true), x) else some (.v (.bool c), x)) = some (.v (.bool (decide P || c)), x) := by by_cases h : P <;> simp [h]
@[simp] theorem e_smallI {j : Int} : smallI j ↔ j.natAbs ≤ 1000000 := Iff.rfl
theorem atI_nat' {α : Type} {ds : List α} {n : Nat} : atI ds (n : Int) = ds[n]? := by
  unfold atI ixN
  rw [if_pos (by omega)]
  by_cases h : n < ds.length
  · rw [if_pos (by omega)]; simp
  · rw [if_neg (by omega)]
    rw [List.getElem?_eq_none (by omega)]; rfl
theorem atI_in {α : Type} {ds : List α} {a : Int} (h0 : 0 ≤ a) : atI ds a = ds[a.toNat]? := by
  obtain ⟨n, rfl⟩ := Int.eq_ofNat_of_zero_le h0
  rw [atI_nat']; simp
@[simp] theorem atI_0 {α : Type} {x : α} {ds : List α} : atI (x :: ds) 0 = some x := atI_in (by omega)
@[simp] theorem atI_1 {α : Type} {x y : α} {ds : List α} : atI (x :: y :: ds) 1 = some y := atI_in (by omega)
@[simp] theorem atI_2 {α : Type} {x y z : α} {ds : List α} : atI (x :: y :: z :: ds) 2 = some z := atI_in (by omega)
@[simp] theorem atI_3 {α : Type} {x0 x1 x2 x3 : α} {ds : List α} : atI (x0 :: x1 :: x2 :: x3 :: ds) 3 = some x3 := atI_in (by omega)
@[simp] theorem atI_4 {α : Type} {x0 x1 x2 x3 x4 : α} {ds : List α} : atI (x0 :: x1 :: x2 :: x3 :: x4 :: ds) 4 = some x4 := atI_in (by omega)
@[simp] theorem atI_5 {α : Type} {x0 x1 x2 x3 x4 x5 : α} {ds : List α} : atI (x0 :: x1 :: x2 :: x3 :: x4 :: x5 :: ds) 5 = some x5 := atI_in (by omega)
@[simp] theorem atI_6 {α : Type} {x0 x1 x2 x3 x4 x5 x6 : α} {ds : List α} : atI (x0 :: x1 :: x2 :: x3 :: x4 :: x5 :: x6 :: ds) 6 = some x6 := atI_in (by omega)
@[simp] theorem atI_7 {α : Type} {x0 x1 x2 x3 x4 x5 x6 x7 : α} {ds : List α} : atI (x0 :: x1 :: x2 :: x3 :: x4 :: x5 :: x6 :: x7 :: ds) 7 = some x7 := atI_in (by omega)
@[simp] theorem atI_8 {α : Type} {x0 x1 x2 x3 x4 x5 x6 x7 x8 : α} {ds : List α} : atI (x0 :: x1 :: x2 :: x3 :: x4 :: x5 :: x6 :: x7 :: x8 :: ds) 8 = some x8 := atI_in (by omega)
@[simp] theorem atI_9 {α : Type} {x0 x1 x2 x3 x4 x5 x6 x7 x8 x9 : α} {ds : List α} : atI (x0 :: x1 :: x2 :: x3 :: x4 :: x5 :: x6 :: x7 :: x8 :: x9 :: ds) 9 = some x9 := atI_in (by omega)
@[simp] theorem atI_10 {α : Type} {x0 x1 x2 x3 x4 x5 x6 x7 x8 x9 x10 : α} {ds : List α} : atI (x0 :: x1 :: x2 :: x3 :: x4 :: x5 :: x6 :: x7 :: x8 :: x9 :: x10 :: ds) 10 = some x10 := atI_in (by omega)
@[simp] theorem atI_11 {α : Type} {x0 x1 x2 x3 x4 x5 x6 x7 x8 x9 x10 x11 : α} {ds : List α} : atI (x0 :: x1 :: x2 :: x3 :: x4 :: x5 :: x6 :: x7 :: x8 :: x9 :: x10 :: x11 :: ds) 11 = some x11 := atI_in (by omega)
@[simp] theorem atI_12 {α : Type} {x0 x1 x2 x3 x4 x5 x6 x7 x8 x9 x10 x11 x12 : α} {ds : List α} : atI (x0 :: x1 :: x2 :: x3 :: x4 :: x5 :: x6 :: x7 :: x8 :: x9 :: x10 :: x11 :: x12 :: ds) 12 = some x12 := atI_in (by omega)
@[simp] theorem atI_13 {α : Type} {x0 x1 x2 x3 x4 x5 x6 x7 x8 x9 x10 x11 x12 x13 : α} {ds : List α} : atI (x0 :: x1 :: x2 :: x3 :: x4 :: x5 :: x6 :: x7 :: x8 :: x9 :: x10 :: x11 :: x12 :: x13 :: ds) 13 = some x13 := atI_in (by omega)
@[simp] theorem ts_0 : toSls ρ [] = some [] := (rfl)
@[simp] theorem ts_1 {x : XV} {xs : List XV} : toSls ρ (x :: xs) = (toSl ρ x).bind fun s => (toSls ρ xs).map (s :: ·) := (rfl)
@[simp] theorem ts_v : toSl ρ (.v d) = some (.v d) := (rfl)
@[simp] theorem ts_s : toSl ρ (.sl i) = match ρ[i]? with
    | some (.v d) => some (.v d)
    | some (.o _ ct) => some (.o true ct)
    | some (.k _ ct) => some (.k true ct)
    | some (.r ns) => some (.r ns)
    | _ => none := (rfl)
@[simp] theorem si_0 : slIx [] = [] := (rfl)
@[simp] theorem si_v {xs : List XV} : slIx (.v d :: xs) = slIx xs := (rfl)
@[simp] theorem si_s {xs : List XV} : slIx (.sl i :: xs) = i :: slIx xs := (rfl)
@[simp] theorem nd_0 : nodupB [] = true := (rfl)
@[simp] theorem nd_1 {x : Nat} {xs : List Nat} : nodupB (x :: xs) = (!xs.contains x && nodupB xs) := (rfl)
@[simp] theorem bk_0 {ss : En} : back ρ [] ss = ρ := by cases ss <;> rfl
@[simp] theorem bk_v {xs : List XV} {ss : En} : back ρ (.v d :: xs) ss = back ρ xs ss.tail := by
  cases ss with
  | nil => cases xs with
    | nil => rfl
    | cons x xs => cases x <;> rfl
  | cons s ss => rfl
@[simp] theorem bk_s {xs : List XV} {s : Sl} {ss : En} : back ρ (.sl i :: xs) (s :: ss) = match ρ[i]?, s with
    | some (.o b _), .o _ ct => back (ρ.set i (.o b ct)) xs ss
    | _, _ => back ρ xs ss := (rfl)
@[simp] theorem e_xcall {C : Calls} {x : Str} : xcall C x fs ρ = (fs ρ).bind fun p => if nodupB (slIx p.1) = true then (toSls p.2 p.1).bind fun args => match C x args with
  | some (.ok z outs) => match z with
    | .v d => some (.v d, back p.2 p.1 outs)
    | .fr ct => some (.fr ct, back p.2 p.1 outs)
    | .sl _ => none
  | _ => none else none := (rfl)
@[simp] theorem oo_0 : outsOf [] ρ = [] := (rfl)
@[simp] theorem oo_v {as : En} {s : Sl} : outsOf (.v d :: as) (s :: ρ) = .v d :: outsOf as ρ := (rfl)
@[simp] theorem oo_r {as : En} {s : Sl} {ns : List Int} : outsOf (.r ns :: as) (s :: ρ) = .r ns :: outsOf as ρ := (rfl)
@[simp] theorem oo_b {as : En} {s : Sl} {c : Ct} : outsOf (.o true c :: as) (s :: ρ) = s :: outsOf as ρ := (rfl)
@[simp] theorem oa_v : okArg (.v d) = true := (rfl)
@[simp] theorem oa_r {ns : List Int} : okArg (.r ns) = true := (rfl)
@[simp] theorem oa_o {c : Ct} : okArg (.o true c) = true := (rfl)
@[simp] theorem oa_k {b : Bool} {c : Ct} : okArg (.k b c) = true := (rfl)
def endCR (args : En) : Fl × En → Option CR
  | (.nx, ρ') => some (.ok (.v .none) (outsOf args ρ'))
  | (.rt x, ρ') => some (.ok x (outsOf args ρ'))
  | (.ex n, _) => some (.ex n)
  | _ => none
theorem run_of {fd : FnD} {C : Calls} {args : En} {p : Fl × En} (hl : args.length = fd.par) (ha : args.all okArg = true) (h : fd.body C (args ++ List.replicate (fd.slots - fd.par) .un) = some p) : runFn fd C args = endCR args p := by
  unfold runFn
  rw [if_pos ⟨hl, ha⟩, h]
  obtain ⟨fl, ρ'⟩ := p
  cases fl <;> rfl
@[simp] theorem end_nx {args ρ' : En} : endCR args (.nx, ρ') = some (.ok (.v .none) (outsOf args ρ')) := (rfl)
@[simp] theorem end_rt {args ρ' : En} {x : XV} : endCR args (.rt x, ρ') = some (.ok x (outsOf args ρ')) := (rfl)
@[simp] theorem end_ex {args ρ' : En} {n : Str} : endCR args (.ex n, ρ') = some (.ex n) := (rfl)
theorem runFn_eq {fd : FnD} {C : Calls} {args : En} (hl : args.length = fd.par) (ha : args.all okArg = true) : runFn fd C args = (fd.body C (args ++ List.replicate (fd.slots - fd.par) .un)).bind (endCR args) := by
  unfold runFn
  rw [if_pos ⟨hl, ha⟩]
  congr 1
  funext p
  obtain ⟨fl, ρ'⟩ := p
  cases fl <;> rfl
def Sp (T : Tab) (n : Nat) (x : Str) (args : En) (r : CR) : Prop := ∀ k, n ≤ k → callF T k x args = some r
theorem sp_of {T : Tab} {n : Nat} {x : Str} {args : En} {r : CR} {fd : FnD} (hT : T.lookup x = some fd) (h : ∀ k, n ≤ k → runFn fd (callF T k) args = some r) : Sp T (n + 1) x args r := by
  intro k hk
  match k, hk with
  | k + 1, hk =>
    show (match T.lookup x with | some d => runFn d (callF T k) args | none => none) = some r
    rw [hT]; exact h k (by omega)
theorem Sp.mono {T : Tab} {n m : Nat} {x : Str} {args : En} {r : CR} (h : Sp T n x args r) (hm : n ≤ m) : Sp T m x args r := fun k hk => h k (by omega)
def lcStep (own : List Nat) (tg : Tgt) (ts : Tst) (el : Ex) (d : D) (ρ : En) : Option (Option D × En) := (tg d ρ).bind fun ρ1 => (ts ρ1).bind fun p => if p.1 = true then (stl el p.2).bind fun q => match q.1 with
    | .v e => some (some e, wipeE q.2 own)
    | _ => none else some (none, wipeE p.2 own)
section
variable {own own1 : List Nat} {tg tg1 : Tgt} {ts ts1 : Tst} {el : Ex} {sr sr1 : IEx} {ds : List D} {lk : Option Nat} {ρ1 : En}
theorem lc_go {r : D → Option D} : ∀ {ds : List D} (acc : List D), (∀ d ∈ ds, lcStep own tg ts el d ρ = some (r d, ρ)) → lcGo own tg ts el ds acc ρ = some (acc ++ ds.filterMap r, ρ)
  | [], acc, _ => by simp [lcGo]
  | d :: ds, acc, h => by
    have h1 := h d List.mem_cons_self
    have ih := fun acc => lc_go (r := r) (ds := ds) acc fun d' hd => h d' (List.mem_cons_of_mem _ hd)
    unfold lcStep at h1
    unfold lcGo
    rw [Option.bind_eq_some_iff] at h1
    obtain ⟨ρ2, e2, h1⟩ := h1
    rw [Option.bind_eq_some_iff] at h1
    obtain ⟨⟨b, ρ3⟩, e3, h1⟩ := h1
    rw [e2, Option.bind_some, e3, Option.bind_some]
    cases b with
    | true =>
      simp only [if_true] at h1 ⊢
      rw [Option.bind_eq_some_iff] at h1
      obtain ⟨⟨x, ρ4⟩, e4, h1⟩ := h1
      rw [e4, Option.bind_some]
      cases x with
      | v e =>
        simp only [Option.some.injEq, Prod.mk.injEq] at h1
        obtain ⟨h1, h2⟩ := h1
        simp only
        rw [h2, ih, List.filterMap_cons, ← h1]
        simp
      | sl _ => cases h1
      | fr _ => cases h1
    | false =>
      simp only [Bool.false_eq_true, if_false] at h1 ⊢
      simp only [Option.some.injEq, Prod.mk.injEq] at h1
      obtain ⟨h1, h2⟩ := h1
      rw [h2, ih, List.filterMap_cons, ← h1]
theorem xlc_ok (r : D → Option D) (hs : sr ρ = some (ds, lk, ρ1)) (hk : lkOut lk own = true) (h : ∀ d ∈ ds, lcStep own tg ts el d (wipeE (lockE lk ρ1) own) = some (r d, wipeE (lockE lk ρ1) own)) :
    xlc own sr tg ts el ρ = some (.fr (.l (ds.filterMap r)), unlockE lk ρ1 (restE (lockE lk ρ1) own (wipeE (lockE lk ρ1) own))) := by
  unfold xlc
  rw [hs, Option.bind_some]
  simp only [hk, if_true]
  rw [lc_go [] h]
  simp
end
def forStep (tg : Tgt) (body : SEx) (d : D) (ρ : En) : Option (Fl × En) := (tg d ρ).bind fun ρ1 => body ρ1
theorem for_inv {tg : Tgt} {body : SEx} (P : Nat → En → Prop) : ∀ (ds : List D) (i : Nat) (ρ : En), P i ρ → (∀ j d ρ, ds[j]? = some d → P (i + j) ρ → ∃ ρ', (forStep tg body d ρ = some (.nx, ρ') ∨ forStep tg body d ρ = some (.ct, ρ')) ∧ P (i + j + 1) ρ') → ∃ ρ', forGo tg body ds ρ = some (.nx, ρ') ∧ P (i + ds.length) ρ'
  | [], i, ρ, h, _ => ⟨ρ, rfl, h⟩
  | d :: ds, i, ρ, h, hs => by
    obtain ⟨ρ1, h1, h2⟩ := hs 0 d ρ rfl h
    obtain ⟨ρ2, h3, h4⟩ := for_inv P ds (i + 1) ρ1 (by simpa using h2) fun j d' ρ e q => by
      have := hs (j + 1) d' ρ (by simpa using e) (by rw [show i + (j + 1) = i + 1 + j by omega]; exact q)
      rw [show i + (j + 1) + 1 = i + 1 + j + 1 by omega] at this
      exact this
    refine ⟨ρ2, ?_, by rw [List.length_cons, show i + (ds.length + 1) = i + 1 + ds.length by omega]; exact h4⟩
    unfold forGo
    unfold forStep at h1
    rcases h1 with h1 | h1
    · rw [Option.bind_eq_some_iff] at h1
      obtain ⟨ρ1, e1, h1⟩ := h1
      rw [e1, Option.bind_some, h1, Option.bind_some]
      exact h3
    · rw [Option.bind_eq_some_iff] at h1
      obtain ⟨ρ1, e1, h1⟩ := h1
      rw [e1, Option.bind_some, h1, Option.bind_some]
      exact h3
@[simp] theorem e_sFor {sr : IEx} {tg : Tgt} {body : SEx} : sFor sr tg body ρ = (sr ρ).bind fun s => (forGo tg body s.1 (lockE s.2.1 s.2.2)).map fun p => (p.1, unlockE s.2.1 s.2.2 p.2) := (rfl)
end
def Draws (ds : List Int) (n : Nat) : Prop := ds.length = n ∧ ∀ x ∈ ds, 0 ≤ x ∧ x < 4096
def DrawsP (c : Int) (n : Nat) (i : Nat) (ρ : En) : Prop := ∃ (rows : List Int) (left : Int) (k m : Option D), ρ = [.v (.int c), .v (.int n), .o false (.l (rows.map .int)), .v (.int left), slO k, slO m] ∧ Draws rows i
theorem draws_step {C : Calls} {c : Int} {n j : Nat} {d : D} {ρ : En} (hn : n ≤ 1000) (hd : (rngL 0 n)[j]? = some d) (h : DrawsP c n j ρ) : ∃ ρ', forStep (setV 4) (f_law_draws_L1 C) d ρ = some (.nx, ρ') ∧ DrawsP c n (j + 1) ρ' := by
  obtain ⟨rows, left, k, m, rfl, h1, h2⟩ := h
  have hj : j < n := by
    have := (List.getElem?_eq_some_iff.mp hd).1
    rwa [rngL_len] at this
  rw [rngL_get hj] at hd
  cases hd
  have hl : rows.length < sizeLine := by rw [sizeLine_eq]; omega
  have snoc : ∀ z : Int, 0 ≤ z → z < 4096 → Draws (rows ++ [z]) (j + 1) := fun z hz1 hz2 => ⟨by simp [h1], fun x hx => by
    rcases List.mem_append.mp hx with hx | hx
    · exact h2 x hx
    · simp at hx; omega⟩
  by_cases hc : (1000000000000000000 : Int) ≤ c ∧ 0 < left
  · refine ⟨_, ?_, rows ++ [left % 4096], left / 4096, some (.int (0 + (j : Int))), m, rfl, snoc _ (by omega) (by omega)⟩
    simp [forStep, f_law_draws_L1, cPow, hc, hl, slO_some]
  · obtain ⟨m1, e1⟩ : ∃ m1 : Int, m1 = (c * 48271 + ((j : Int) + 1) * 69621) % 2147483647 := ⟨_, rfl⟩
    obtain ⟨m2, e2⟩ : ∃ m2 : Int, m2 = (m1 * m1 + m1 * 16807 + (j : Int) * 7919) % 2147483629 := ⟨_, rfl⟩
    obtain ⟨m3, e3⟩ : ∃ m3 : Int, m3 = (m2 * m2 + c + 13 * (j : Int)) % 2147483587 := ⟨_, rfl⟩
    refine ⟨_, ?_, rows ++ [m3 / 7 % 4096], left, some (.int (0 + (j : Int))), some (.int m3), rfl, snoc _ (by omega) (by omega)⟩
    have h1 : m1.natAbs < 2 ^ 64 := by omega
    have h2 : m2.natAbs < 2 ^ 64 := by omega
    simp [forStep, f_law_draws_L1, cPow, hc, hl, slO_some, cMul, ← e1, ← e2, ← e3, h1, h2]
theorem draws_run {C : Calls} (c : Int) (n : Nat) (hn : n ≤ 1000) : ∃ ds, Draws ds n ∧ runFn f_law_draws C [.v (.int c), .v (.int n)] = some (.ok (.fr (.l (ds.map .int))) [.v (.int c), .v (.int n)]) := by
  obtain ⟨ρ', h1, rows, left, k, m, rfl, h2⟩ := for_inv (tg := setV 4) (body := f_law_draws_L1 C) (DrawsP c n) (rngL 0 n) 0 [.v (.int c), .v (.int n), .o false (.l []), .v (.int c), .un, .un] ⟨[], c, none, none, rfl, rfl, by simp⟩
    fun j d ρ hd h => by
      obtain ⟨ρ', h1, h2⟩ := draws_step (C := C) hn hd (by rw [Nat.zero_add] at h; exact h)
      exact ⟨ρ', .inl h1, by rw [Nat.zero_add]; exact h2⟩
  rw [Nat.zero_add, rngL_len] at h2
  refine ⟨rows, h2, (run_of rfl rfl (p := (.rt (.fr (.l (rows.map .int))), [.v (.int c), .v (.int n), .un, .v (.int left), slO k, slO m])) ?_).trans rfl⟩
  have hn' : n ≤ 1000000 := by omega
  simp [f_law_draws, hn', h1]
def kindN : D → Int
  | .bool _ => 1
  | .int _ => 2
  | .str _ => 3
  | .tuple _ => 4
  | .list _ => 5
  | .dict _ => 6
  | .none => 0
theorem kind_run {C : Calls} (d : D) : runFn f_law_kind C [.v d] = some (.ok (.v (.int (kindN d))) [.v d]) := by
  refine (run_of rfl rfl (p := (.rt (.v (.int (kindN d))), [.v d])) ?_).trans rfl
  cases d <;> simp [f_law_kind, isTy, kindN]
def okE : Nat → D → Bool
  | _, .none => true
  | _, .bool _ => true
  | _, .int _ => true
  | _, .str _ => true
  | n + 1, .list ds => decide (ds.length ≤ 1000000) && ds.all (okE n)
  | n + 1, .tuple ds => decide (ds.length ≤ 1000000) && ds.all (okE n)
  | _, _ => false
structure HasEqual (T : Tab) : Prop where
  kind : T.lookup (Str.ofString "_law_kind") = some f_law_kind
  equal : T.lookup (Str.ofString "_law_equal") = some f_law_equal
theorem sp_kind {T : Tab} (h : HasEqual T) (d : D) : Sp T 1 (Str.ofString "_law_kind") [.v d] (.ok (.v (.int (kindN d))) [.v d]) := sp_of h.kind fun k _ => kind_run d
theorem eqv_int (a b : Int) : PyData.eqv (.int a) (.int b) = decide (a = b) := by simp [PyData.eqv]; rfl
theorem equal_c1 {C : Calls} {d : D} {ds : List D} (hd : d = .list ds ∨ d = .tuple ds) (hl : ds.length ≤ 1000000) (h : ∀ e ∈ ds, C (Str.ofString "_law_equal") [.v e, .v e] = some (.ok (.v (.bool true)) [.v e, .v e])) :
    f_law_equal_c1 C [.v d, .v d, .un, .un, .un] = some (.fr (.l []), [.v d, .v d, .un, .un, .un]) := by
  unfold f_law_equal_c1
  rw [xlc_ok (ds := rngL 0 ds.length) (lk := none) (ρ1 := [.v d, .v d, .un, .un, .un]) (fun _ => none) ?_ rfl ?_]
  · simp
  · rcases hd with rfl | rfl <;> simp [hl]
  · intro x hx
    obtain ⟨j, hj⟩ := List.getElem?_of_mem hx
    have hlt : j < ds.length := by
      have := (List.getElem?_eq_some_iff.mp hj).1
      rwa [rngL_len] at this
    rw [rngL_get hlt] at hj
    cases hj
    have he : ds[j]? = some ds[j] := List.getElem?_eq_getElem hlt
    have hc := h ds[j] (List.getElem_mem hlt)
    rcases hd with rfl | rfl <;> simp [lcStep, atI_nat', he, hc]
theorem sp_equal {T : Tab} (h : HasEqual T) : ∀ (n : Nat) (d : D), okE n d = true → Sp T (n + 2) (Str.ofString "_law_equal") [.v d, .v d] (.ok (.v (.bool true)) [.v d, .v d])
  | n, d, hd => by
    refine sp_of h.equal fun k hk => ?_
    have hkd := sp_kind h d k (by omega)
    refine (run_of rfl rfl (p := (.rt (.v (.bool true)), [.v d, .v d, .un, .un, .un])) ?_).trans rfl
    have leaf : (∀ ds, d ≠ .list ds) → (∀ ds, d ≠ .tuple ds) → (∀ ds, d ≠ .dict ds) → PyData.eqv d d = true → d.depth ≤ 64 → f_law_equal.body (callF T k) ([Sl.v d, .v d] ++ List.replicate (f_law_equal.slots - f_law_equal.par) .un) = some (.rt (.v (.bool true)), [.v d, .v d, .un, .un, .un]) := fun h1 h2 h3 h4 h5 => by
      cases d with
      | list ds => exact absurd rfl (h1 ds)
      | tuple ds => exact absurd rfl (h2 ds)
      | dict ds => exact absurd rfl (h3 ds)
      | _ => simp [f_law_equal, hkd, isTy, eqv_int, h4, h5, PyData.depth]
    have seq : ∀ ds, (d = .list ds ∨ d = .tuple ds) → ds.length ≤ 1000000 → (∀ e ∈ ds, callF T k (Str.ofString "_law_equal") [.v e, .v e] = some (.ok (.v (.bool true)) [.v e, .v e])) → f_law_equal.body (callF T k) ([Sl.v d, .v d] ++ List.replicate (f_law_equal.slots - f_law_equal.par) .un) = some (.rt (.v (.bool true)), [.v d, .v d, .un, .un, .un]) := fun ds hd hl he => by
      have hc := equal_c1 (C := callF T k) hd hl he
      rcases hd with rfl | rfl <;> simp [f_law_equal, hkd, isTy, eqv_int, hc, PyData.depth]
    cases d with
    | dict ds => cases n <;> cases hd
    | list ds =>
      cases n with
      | zero => cases hd
      | succ n =>
        simp only [okE, Bool.and_eq_true, decide_eq_true_eq, List.all_eq_true] at hd
        exact seq ds (.inl rfl) hd.1 fun e he => sp_equal h n e (hd.2 e he) k (by omega)
    | tuple ds =>
      cases n with
      | zero => cases hd
      | succ n =>
        simp only [okE, Bool.and_eq_true, decide_eq_true_eq, List.all_eq_true] at hd
        exact seq ds (.inr rfl) hd.1 fun e he => sp_equal h n e (hd.2 e he) k (by omega)
    | none => exact leaf (by simp) (by simp) (by simp) (by simp [PyData.eqv]) (by simp [PyData.depth])
    | bool b => exact leaf (by simp) (by simp) (by simp) (by simp [PyData.eqv]) (by simp [PyData.depth])
    | int i => exact leaf (by simp) (by simp) (by simp) (by simp [PyData.eqv]) (by simp [PyData.depth])
    | str x => exact leaf (by simp) (by simp) (by simp) (by simp [PyData.eqv]) (by simp [PyData.depth])
abbrev Pr := Int × Int
def pD (p : Pr) : D := .tuple [.int p.1, .int p.2]
theorem pD_mk (a b : Int) : pD (a, b) = .tuple [.int a, .int b] := rfl
theorem beq_int (a b : Int) : (a == b) = decide (a = b) := rfl
theorem eqv_pD (p q : Pr) : PyData.eqv (pD p) (pD q) = decide (p = q) := by
  obtain ⟨a, b⟩ := p
  obtain ⟨c, d⟩ := q
  simp only [pD, PyData.eqv, PyData.eqvAll, Bool.and_true, beq_int]
  by_cases h1 : a = c <;> by_cases h2 : b = d <;> simp [h1, h2]
theorem depth_pD (p : Pr) : (pD p).depth = 1 := by simp [pD, PyData.depth, PyData.depthAll]
theorem any_enc {α : Type} {enc : α → D} {l : List α} {x : α} (he : ∀ a b, PyData.eqv (enc a) (enc b) = true ↔ a = b) : ((l.map enc).any fun z => PyData.eqv z (enc x)) = true ↔ x ∈ l := by
  rw [List.any_eq_true]
  constructor
  · rintro ⟨z, hz, h⟩
    obtain ⟨a, ha, rfl⟩ := List.mem_map.mp hz
    rw [(he a x).mp h] at ha
    exact ha
  · intro h
    exact ⟨enc x, List.mem_map_of_mem h, (he x x).mpr rfl⟩
theorem any_pD (l : List Pr) (a b : Int) : ((l.map pD).any fun z => PyData.eqv z (.tuple [.int a, .int b])) = decide ((a, b) ∈ l) := by
  rw [Bool.eq_iff_iff, decide_eq_true_eq]
  exact any_enc (x := (a, b)) fun p q => by rw [eqv_pD, decide_eq_true_eq]
theorem any_pD' (l : List Pr) (a b : Int) : l.any ((fun z => PyData.eqv z (.tuple [.int a, .int b])) ∘ pD) = decide ((a, b) ∈ l) := by rw [← any_pD, List.any_map]
def srtBy {α : Type} (enc : α → D) (l : List α) : List α := l.mergeSort fun a b => PySem.W.dataLe false id (enc a) (enc b)
theorem srt_map {α : Type} (enc : α → D) (l : List α) : srt (l.map enc) = (srtBy enc l).map enc := by
  unfold srt srtBy
  rw [List.map_mergeSort]
  intro a _ b _
  rfl
theorem srtBy_perm {α : Type} (enc : α → D) (l : List α) : (srtBy enc l).Perm l := List.mergeSort_perm _ _
theorem mem_srtBy {α : Type} {enc : α → D} {l : List α} {a : α} : a ∈ srtBy enc l ↔ a ∈ l := (srtBy_perm enc l).mem_iff
theorem srtBy_len {α : Type} {enc : α → D} {l : List α} : (srtBy enc l).length = l.length := (srtBy_perm enc l).length_eq
theorem depthAll_le {ds : List D} {n : Nat} (h : ∀ d ∈ ds, d.depth ≤ n) : PyData.depthAll ds ≤ n := by
  induction ds with
  | nil => simp [PyData.depthAll]
  | cons d ds ih =>
    rw [PyData.depthAll]
    exact Nat.max_le.mpr ⟨h d List.mem_cons_self, ih fun e he => h e (List.mem_cons_of_mem _ he)⟩
theorem sortB_tup {α : Type} {enc : α → D} {l : List α} (h1 : ∀ a b, a ∈ l → b ∈ l → PySem.W.alike (enc a) (enc b) = true) (h2 : ∀ a ∈ l, isTupC (enc a) = true) (h3 : ∀ a ∈ l, (enc a).depth ≤ 64) : sortB (l.map enc) = true := by
  unfold sortB alikeB
  have e1 : (l.map enc).all (fun d => (l.map enc).all fun e => PySem.W.alike d e) = true := by
    simp only [List.all_eq_true, List.mem_map]
    rintro _ ⟨a, ha, rfl⟩ _ ⟨b, hb, rfl⟩
    exact h1 a b ha hb
  have e2 : (l.map enc).all isTupC = true := by
    simp only [List.all_eq_true, List.mem_map]
    rintro _ ⟨a, ha, rfl⟩
    exact h2 a ha
  have e3 : PyData.depthAll (l.map enc) ≤ 64 := depthAll_le fun d hd => by
    obtain ⟨a, ha, rfl⟩ := List.mem_map.mp hd
    exact h3 a ha
  rw [e1, e2]
  simp [e3]
theorem sortB_pD (l : List Pr) : sortB (l.map pD) = true := sortB_tup (fun a b _ _ => by simp [pD, PySem.W.alike, PySem.W.alikeAll]) (fun a _ => rfl) fun a _ => by rw [depth_pD]; omega
def rngI (lo : Int) (n : Nat) : List Int := (List.range n).map fun (i : Nat) => lo + (i : Int)
theorem rngL_map (lo : Int) (n : Nat) : rngL lo n = (rngI lo n).map .int := by unfold rngL rngI; rw [List.map_map]; rfl
theorem mem_rngI {lo : Int} {n : Nat} {x : Int} : x ∈ rngI lo n ↔ lo ≤ x ∧ x < lo + n := by
  unfold rngI
  rw [List.mem_map]
  constructor
  · rintro ⟨i, hi, rfl⟩
    have := List.mem_range.mp hi
    omega
  · rintro ⟨h1, h2⟩
    exact ⟨(x - lo).toNat, List.mem_range.mpr (by omega), by omega⟩
@[simp] theorem rngI_len {lo : Int} {n : Nat} : (rngI lo n).length = n := by simp [rngI]
@[simp] theorem ite_lc {P : Prop} [Decidable P] {e : D} {x : En} : (if P then some (some e, x) else some (none, x)) = some (if P then some e else none, x) := by by_cases h : P <;> simp [h]
section
variable {own own1 : List Nat} {tg tg1 : Tgt} {ts ts1 : Tst} {el : Ex} {sr sr1 : IEx} {lk : Option Nat} {ρ ρ1 ρ2 : En}
theorem lc_flt {α : Type} (enc : α → D) (P : α → Bool) (g : α → D) : ∀ (l : List α) (acc : List D), (∀ a ∈ l, lcStep own tg ts el (enc a) ρ = some (if P a = true then some (g a) else none, ρ)) → lcGo own tg ts el (l.map enc) acc ρ = some (acc ++ (l.filter P).map g, ρ)
  | [], acc, _ => by simp [lcGo]
  | a :: l, acc, h => by
    have h1 := h a List.mem_cons_self
    have ih := fun acc => lc_flt enc P g l acc fun b hb => h b (List.mem_cons_of_mem _ hb)
    unfold lcStep at h1
    rw [List.map_cons]
    unfold lcGo
    rw [Option.bind_eq_some_iff] at h1
    obtain ⟨ρ2, e2, h1⟩ := h1
    rw [Option.bind_eq_some_iff] at h1
    obtain ⟨⟨b, ρ3⟩, e3, h1⟩ := h1
    rw [e2, Option.bind_some, e3, Option.bind_some]
    cases b with
    | true =>
      simp only [if_true] at h1 ⊢
      rw [Option.bind_eq_some_iff] at h1
      obtain ⟨⟨x, ρ4⟩, e4, h1⟩ := h1
      rw [e4, Option.bind_some]
      cases x with
      | v e =>
        simp only [Option.some.injEq, Prod.mk.injEq] at h1
        obtain ⟨h1, h2⟩ := h1
        simp only
        rw [h2, ih]
        cases hp : P a with
        | true => rw [hp] at h1; simp at h1; rw [List.filter_cons, hp]; simp [h1]
        | false => rw [hp] at h1; simp at h1
      | sl _ => cases h1
      | fr _ => cases h1
    | false =>
      simp only [Bool.false_eq_true, if_false] at h1 ⊢
      simp only [Option.some.injEq, Prod.mk.injEq] at h1
      obtain ⟨h1, h2⟩ := h1
      rw [h2, ih]
      cases hp : P a with
      | true => rw [hp] at h1; simp at h1
      | false => rw [List.filter_cons, hp]; simp
theorem xlc_flt {α : Type} (enc : α → D) (l : List α) (P : α → Bool) (g : α → D) (hs : sr ρ = some (l.map enc, lk, ρ1)) (hk : lkOut lk own = true) (h : ∀ a ∈ l, lcStep own tg ts el (enc a) (wipeE (lockE lk ρ1) own) = some (if P a = true then some (g a) else none, wipeE (lockE lk ρ1) own))
    (he : unlockE lk ρ1 (restE (lockE lk ρ1) own (wipeE (lockE lk ρ1) own)) = ρ2) : xlc own sr tg ts el ρ = some (.fr (.l ((l.filter P).map g)), ρ2) := by
  unfold xlc
  rw [hs, Option.bind_some]
  simp only [hk, if_true]
  rw [lc_flt enc P g l [] h]
  simp [he]
theorem xlc_all {α : Type} (enc : α → D) (l : List α) (g : α → D) (hs : sr ρ = some (l.map enc, lk, ρ1)) (hk : lkOut lk own = true) (h : ∀ a ∈ l, lcStep own tg ts el (enc a) (wipeE (lockE lk ρ1) own) = some (some (g a), wipeE (lockE lk ρ1) own))
    (he : unlockE lk ρ1 (restE (lockE lk ρ1) own (wipeE (lockE lk ρ1) own)) = ρ2) : xlc own sr tg ts el ρ = some (.fr (.l (l.map g)), ρ2) := by
  rw [xlc_flt enc l (fun _ => true) g hs hk (fun a ha => by simpa using h a ha) he]
  have : l.filter (fun _ => true) = l := List.filter_eq_self.mpr fun _ _ => rfl
  rw [this]
end
theorem for_pre {α : Type} {tg : Tgt} {body : SEx} (dec : α → D) (P : List α → En → Prop) : ∀ (post pre : List α) (ρ : En), P pre ρ → (∀ pre1 a post1 ρ, pre1 ++ a :: post1 = pre ++ post → P pre1 ρ → ∃ ρ', (forStep tg body (dec a) ρ = some (.nx, ρ') ∨ forStep tg body (dec a) ρ = some (.ct, ρ')) ∧ P (pre1 ++ [a]) ρ') → ∃ ρ', forGo tg body (post.map dec) ρ = some (.nx, ρ') ∧ P (pre ++ post) ρ'
  | [], pre, ρ, h, _ => ⟨ρ, rfl, by simpa using h⟩
  | a :: post, pre, ρ, h, hs => by
    obtain ⟨ρ1, h1, h2⟩ := hs pre a post ρ rfl h
    obtain ⟨ρ2, h3, h4⟩ := for_pre dec P post (pre ++ [a]) ρ1 h2 fun pre1 b post1 ρ e => hs pre1 b post1 ρ (by rw [e]; simp)
    refine ⟨ρ2, ?_, by simpa using h4⟩
    rw [List.map_cons]
    unfold forGo
    unfold forStep at h1
    rcases h1 with h1 | h1
    · rw [Option.bind_eq_some_iff] at h1
      obtain ⟨ρ1, e1, h1⟩ := h1
      rw [e1, Option.bind_some, h1, Option.bind_some]
      exact h3
    · rw [Option.bind_eq_some_iff] at h1
      obtain ⟨ρ1, e1, h1⟩ := h1
      rw [e1, Option.bind_some, h1, Option.bind_some]
      exact h3
def clStep (p : Pr) (f : List Pr) (q : Pr) : List Pr := if p.2 = q.1 ∧ (p.1, q.2) ∉ f then f ++ [(p.1, q.2)] else f
def clIn (p : Pr) (f : List Pr) : List Pr := f.foldl (clStep p) f
def clTurn (f : List Pr) : List Pr := f.foldl (fun g p => clIn p g) f
def cl3 (f : List Pr) : List Pr := clTurn (clTurn (clTurn f))
inductive Pth (ps : List Pr) : Nat → Int → Int → Prop
  | one {a b : Int} : (a, b) ∈ ps → Pth ps 1 a b
  | cons {k : Nat} {a c b : Int} : (a, c) ∈ ps → Pth ps k c b → Pth ps (k + 1) a b
def Reach (ps : List Pr) (p : Pr) : Prop := ∃ k, Pth ps k p.1 p.2
section
variable {ps f g : List Pr} {p q : Pr} {a b c : Int} {j k : Nat}
theorem Pth.pos (h : Pth ps k a b) : 1 ≤ k := by cases h <;> omega
theorem Pth.append (h : Pth ps j a c) (h' : Pth ps k c b) : Pth ps (j + k) a b := by
  induction h with
  | one h => rw [Nat.add_comm]; exact .cons h h'
  | cons h _ ih => rw [show ∀ x : Nat, x + 1 + k = x + k + 1 by intro x; omega]; exact .cons h (ih h')
theorem Pth.split (h : Pth ps k a b) : ∀ j, 1 ≤ j → j < k → ∃ c, Pth ps j a c ∧ Pth ps (k - j) c b := by
  induction h with
  | one h => intro j h1 h2; omega
  | @cons k a c b h t ih =>
    intro j h1 h2
    by_cases hj : j = 1
    · subst hj; exact ⟨c, .one h, by simpa using t⟩
    · obtain ⟨e, e1, e2⟩ := ih (j - 1) (by omega) (by omega)
      refine ⟨e, ?_, ?_⟩
      · have := Pth.cons h e1
        rwa [Nat.sub_add_cancel h1] at this
      · rw [show k + 1 - j = k - (j - 1) by omega]; exact e2
theorem Reach.trans (h : Reach ps (a, c)) (h' : Reach ps (c, b)) : Reach ps (a, b) := by
  obtain ⟨j, h⟩ := h
  obtain ⟨k, h'⟩ := h'
  exact ⟨j + k, h.append h'⟩
theorem Reach.ends (h : Reach ps (a, b)) : (∃ c, (a, c) ∈ ps) ∧ ∃ c, (c, b) ∈ ps := by
  obtain ⟨k, h⟩ := h
  simp only at h
  induction h with
  | one h => exact ⟨⟨_, h⟩, _, h⟩
  | cons h _ ih => exact ⟨⟨_, h⟩, ih.2⟩
theorem Pth.rank {r : Int → Nat} (hr : ∀ a b, (a, b) ∈ ps → r a < r b) (h : Pth ps k a b) : r a + k ≤ r b := by
  induction h with
  | one h => exact hr _ _ h
  | cons h _ ih => have := hr _ _ h; omega
theorem step_sub : ∀ x ∈ f, x ∈ clStep p f q := fun x hx => by
  unfold clStep
  split
  · exact List.mem_append_left _ hx
  · exact hx
theorem fold_sub (l : List Pr) : ∀ f : List Pr, ∀ x ∈ f, x ∈ l.foldl (clStep p) f := by
  induction l with
  | nil => intro f x hx; exact hx
  | cons q l ih => intro f x hx; exact ih _ x (step_sub x hx)
theorem fold_has (l : List Pr) : ∀ f : List Pr, ∀ q ∈ l, p.2 = q.1 → (p.1, q.2) ∈ l.foldl (clStep p) f := by
  induction l with
  | nil => intro f q hq; cases hq
  | cons q l ih =>
    intro f q' hq e
    rcases List.mem_cons.mp hq with rfl | hq
    · refine fold_sub l _ _ ?_
      unfold clStep
      by_cases h : (p.1, q'.2) ∈ f
      · rw [if_neg fun z => z.2 h]; exact h
      · rw [if_pos ⟨e, h⟩]; exact List.mem_append_right _ List.mem_cons_self
    · exact ih _ q' hq e
theorem out_sub (l : List Pr) : ∀ f : List Pr, ∀ x ∈ f, x ∈ l.foldl (fun g p => clIn p g) f := by
  induction l with
  | nil => intro f x hx; exact hx
  | cons p l ih => intro f x hx; exact ih _ x (fold_sub _ _ x hx)
theorem turn_sub : ∀ x ∈ f, x ∈ clTurn f := out_sub f f
theorem turn_has (h : (a, c) ∈ f) (h' : (c, b) ∈ f) : (a, b) ∈ clTurn f := by
  have go : ∀ (l : List Pr) (g : List Pr), (∀ x ∈ f, x ∈ g) → (a, c) ∈ l → (a, b) ∈ l.foldl (fun g p => clIn p g) g := by
    intro l
    induction l with
    | nil => intro g _ h; cases h
    | cons p l ih =>
      intro g hg hm
      rcases List.mem_cons.mp hm with rfl | hm
      · exact out_sub l _ _ (fold_has g g (c, b) (hg _ h') rfl)
      · exact ih _ (fun x hx => fold_sub _ _ x (hg x hx)) hm
  exact go f f (fun x hx => hx) h
theorem turn_pth {n : Nat} (h : ∀ k a b, k ≤ n → Pth ps k a b → (a, b) ∈ f) (h1 : ∀ x ∈ ps, x ∈ f) : ∀ k a b, k ≤ 2 * n → Pth ps k a b → (a, b) ∈ clTurn f := by
  intro k a b hk hp
  by_cases hn : k ≤ n
  · exact turn_sub _ (h k a b hn hp)
  · by_cases h2 : k = 1
    · subst h2
      cases hp with
      | one h => exact turn_sub _ (h1 _ h)
      | cons _ t => have := t.pos; omega
    · have := hp.pos
      by_cases hz : n = 0
      · omega
      · obtain ⟨c, e1, e2⟩ := hp.split n (by omega) (by omega)
        exact turn_has (h n a c (Nat.le_refl _) e1) (h _ c b (by omega) e2)
structure Cl (ps f : List Pr) : Prop where
  ex : ∃ add, f = ps ++ add ∧ add.Nodup ∧ ∀ p ∈ add, Reach ps p
theorem Cl.base : Cl ps ps := ⟨[], by simp, .nil, fun p h => by cases h⟩
theorem Cl.reach (h : Cl ps f) : ∀ p ∈ f, Reach ps p := by
  obtain ⟨add, rfl, _, h⟩ := h
  intro p hp
  rcases List.mem_append.mp hp with hp | hp
  · exact ⟨1, .one hp⟩
  · exact h p hp
theorem Cl.step (h : Cl ps f) (hp : Reach ps p) (hq : Reach ps q) : Cl ps (clStep p f q) := by
  unfold clStep
  split
  · rename_i e
    obtain ⟨e1, e2⟩ := e
    obtain ⟨add, rfl, hn, hr⟩ := h
    refine ⟨add ++ [(p.1, q.2)], by simp, ?_, fun x hx => ?_⟩
    · rw [List.nodup_append]
      refine ⟨hn, by simp, fun x hx y hy => ?_⟩
      have : y = (p.1, q.2) := by simpa using hy
      subst this
      intro z; subst z
      exact e2 (List.mem_append_right _ hx)
    · rcases List.mem_append.mp hx with hx | hx
      · exact hr x hx
      · have : x = (p.1, q.2) := by simpa using hx
        subst this
        have hq' : Reach ps (p.2, q.2) := by rw [e1]; exact hq
        exact Reach.trans (c := p.2) hp hq'
  · exact h
theorem Cl.fold (hp : Reach ps p) : ∀ (l f : List Pr), Cl ps f → (∀ q ∈ l, Reach ps q) → Cl ps (l.foldl (clStep p) f) := by
  intro l
  induction l with
  | nil => intro f h _; exact h
  | cons q l ih => intro f h hl; exact ih _ (h.step hp (hl q List.mem_cons_self)) fun x hx => hl x (List.mem_cons_of_mem _ hx)
theorem Cl.inn (h : Cl ps f) (hp : Reach ps p) : Cl ps (clIn p f) := Cl.fold hp f f h h.reach
theorem Cl.out : ∀ (l f : List Pr), Cl ps f → (∀ q ∈ l, Reach ps q) → Cl ps (l.foldl (fun g p => clIn p g) f) := by
  intro l
  induction l with
  | nil => intro f h _; exact h
  | cons q l ih => intro f h hl; exact ih _ (h.inn (hl q List.mem_cons_self)) fun x hx => hl x (List.mem_cons_of_mem _ hx)
theorem Cl.turn (h : Cl ps f) : Cl ps (clTurn f) := Cl.out f f h h.reach
theorem mem_cl3 {r : Int → Nat} (hr : ∀ a b, (a, b) ∈ ps → r a < r b) (h8 : ∀ a, r a ≤ 8) : p ∈ cl3 ps ↔ Reach ps p := by
  constructor
  · exact (Cl.base.turn.turn.turn).reach p
  · rintro ⟨k, h⟩
    have hk := h.rank hr
    have := h8 p.2
    have b0 : ∀ k a b, k ≤ 1 → Pth ps k a b → (a, b) ∈ ps := fun k a b hk h => by
      cases h with
      | one h => exact h
      | cons _ t => have := t.pos; omega
    have b1 := turn_pth b0 fun x h => h
    have b2 := turn_pth b1 turn_sub
    have b3 := turn_pth b2 fun x h => turn_sub _ (turn_sub _ h)
    exact b3 k _ _ (by omega) h
theorem nodup_le {α : Type} [BEq α] [LawfulBEq α] : ∀ {l m : List α}, l.Nodup → (∀ x ∈ l, x ∈ m) → l.length ≤ m.length
  | [], _, _, _ => Nat.zero_le _
  | a :: l, m, hn, hs => by
    rw [List.nodup_cons] at hn
    have ha := hs a List.mem_cons_self
    have := nodup_le (l := l) (m := m.erase a) hn.2 fun x hx => by
      have hne : x ≠ a := fun z => hn.1 (z ▸ hx)
      exact (List.mem_erase_of_ne hne).mpr (hs x (List.mem_cons_of_mem _ hx))
    rw [List.length_erase_of_mem ha] at this
    have hp := List.length_pos_of_mem ha
    simp only [List.length_cons]; omega
def square (n : Nat) : List Pr := (rngI 0 n).flatMap fun a => (rngI 0 n).map fun b => (a, b)
theorem square_len (n : Nat) : (square n).length = n * n := by
  unfold square
  rw [List.length_flatMap]
  have : ∀ l : List Int, (l.map fun a => ((rngI 0 n).map fun b => (a, b)).length).sum = l.length * n := by
    intro l
    induction l with
    | nil => simp
    | cons a l ih => rw [List.map_cons, List.sum_cons, ih]; simp [Nat.add_mul]; omega
  rw [this, rngI_len]
theorem mem_square {n : Nat} {p : Pr} (h : 0 ≤ p.1 ∧ p.1 < n ∧ 0 ≤ p.2 ∧ p.2 < n) : p ∈ square n := by
  unfold square
  rw [List.mem_flatMap]
  exact ⟨p.1, mem_rngI.mpr (by omega), List.mem_map.mpr ⟨p.2, mem_rngI.mpr (by omega), rfl⟩⟩
end
def plt (p q : Pr) : Prop := p.1 < q.1 ∨ (p.1 = q.1 ∧ p.2 < q.2)
def ple (p q : Pr) : Prop := p.1 < q.1 ∨ (p.1 = q.1 ∧ p.2 ≤ q.2)
theorem le_pD : (fun a b : Pr => PySem.W.dataLe false id (pD a) (pD b)) = fun a b => decide (a.1 < b.1 ∨ (a.1 = b.1 ∧ a.2 ≤ b.2)) := PySem.W.dataLe_ii (fun p : Pr => p.1) (fun p : Pr => p.2)
theorem srtBy_pD (l : List Pr) : (srtBy pD l).Pairwise ple := by
  unfold srtBy
  rw [le_pD]
  have := List.pairwise_mergeSort (le := fun a b : Pr => decide (a.1 < b.1 ∨ (a.1 = b.1 ∧ a.2 ≤ b.2))) (by
    intro a b c h1 h2
    simp only [decide_eq_true_eq] at *
    omega) (by
    intro a b
    simp only [Bool.or_eq_true, decide_eq_true_eq]
    omega) l
  refine this.imp ?_
  intro a b h
  simpa [ple] using h
def unl (l : List Pr) : List Pr := l.foldl (fun u p => if p ∈ u then u else u ++ [p]) []
theorem unl_mem : ∀ (l u : List Pr) (x : Pr), x ∈ l.foldl (fun u p => if p ∈ u then u else u ++ [p]) u ↔ x ∈ u ∨ x ∈ l
  | [], u, x => by simp
  | p :: l, u, x => by
    rw [List.foldl_cons, unl_mem l _ x]
    split
    · rename_i h
      constructor
      · rintro (q | q)
        · exact .inl q
        · exact .inr (List.mem_cons_of_mem _ q)
      · rintro (q | q)
        · exact .inl q
        · rcases List.mem_cons.mp q with rfl | q
          · exact .inl h
          · exact .inr q
    · simp only [List.mem_append, List.mem_cons, List.not_mem_nil, or_false]
      constructor
      · rintro ((q | q) | q)
        · exact .inl q
        · exact .inr (.inl q)
        · exact .inr (.inr q)
      · rintro (q | q | q)
        · exact .inl (.inl q)
        · exact .inl (.inr q)
        · exact .inr q
theorem mem_unl {l : List Pr} {x : Pr} : x ∈ unl l ↔ x ∈ l := by unfold unl; rw [unl_mem]; simp
theorem ple_ne {p q : Pr} (h : ple p q) (n : p ≠ q) : plt p q := by
  obtain ⟨a, b⟩ := p
  obtain ⟨c, d⟩ := q
  unfold ple at h
  unfold plt
  simp only at *
  by_cases e : b = d
  · subst e
    rcases h with h | ⟨h, _⟩
    · exact .inl h
    · exact absurd (by rw [h]) n
  · omega
theorem unl_go : ∀ (l u : List Pr), u.Pairwise plt → l.Pairwise ple → (∀ x ∈ u, ∀ y ∈ l, ple x y) → (l.foldl (fun u p => if p ∈ u then u else u ++ [p]) u).Pairwise plt
  | [], u, h, _, _ => h
  | p :: l, u, h1, h2, h3 => by
    rw [List.foldl_cons]
    rw [List.pairwise_cons] at h2
    split
    · exact unl_go l u h1 h2.2 fun x hx y hy => h3 x hx y (List.mem_cons_of_mem _ hy)
    · rename_i hp
      refine unl_go l _ ?_ h2.2 fun x hx y hy => ?_
      · rw [List.pairwise_append]
        refine ⟨h1, by simp, fun x hx y hy => ?_⟩
        have : y = p := by simpa using hy
        subst this
        exact ple_ne (h3 x hx _ List.mem_cons_self) fun z => hp (z ▸ hx)
      · rcases List.mem_append.mp hx with hx | hx
        · exact h3 x hx y (List.mem_cons_of_mem _ hy)
        · have : x = p := by simpa using hx
          subst this; exact h2.1 y hy
def closedL (ps : List Pr) : List Pr := unl (srtBy pD (cl3 ps))
theorem closedL_sorted (ps : List Pr) : (closedL ps).Pairwise plt := unl_go _ [] .nil (srtBy_pD _) fun x hx => by cases hx
theorem mem_closedL {ps : List Pr} {p : Pr} {r : Int → Nat} (hr : ∀ a b, (a, b) ∈ ps → r a < r b) (h8 : ∀ a, r a ≤ 8) : p ∈ closedL ps ↔ Reach ps p := by
  unfold closedL
  rw [mem_unl, mem_srtBy, mem_cl3 hr h8]
theorem plt_irr (p : Pr) : ¬ plt p p := by unfold plt; omega
theorem sorted_nodup {l : List Pr} (h : l.Pairwise plt) : l.Nodup := h.imp fun {a b} q => fun z => plt_irr b (by rw [z] at q; exact q)
structure OrderOk (m n : Int) (qs : List Pr) : Prop where
  n1 : 1 ≤ n
  n2 : n ≤ m
  m8 : m ≤ 8
  inn : ∀ p ∈ qs, 0 ≤ p.1 ∧ p.1 < n ∧ 0 ≤ p.2 ∧ p.2 < n
  asym : ∀ a b, (a, b) ∈ qs → (b, a) ∉ qs
  trans : ∀ a b c, (a, b) ∈ qs → (b, c) ∈ qs → (a, c) ∈ qs
  sorted : qs.Pairwise plt
theorem OrderOk.irr {m n : Int} {qs : List Pr} (h : OrderOk m n qs) {a b : Int} (hab : (a, b) ∈ qs) : a ≠ b := fun z => by
  subst z; exact h.asym _ _ hab hab
theorem order_of {m n : Int} {ps : List Pr} {r : Int → Nat} (n1 : 1 ≤ n) (n2 : n ≤ m) (m8 : m ≤ 8) (hin : ∀ p ∈ ps, 0 ≤ p.1 ∧ p.1 < n ∧ 0 ≤ p.2 ∧ p.2 < n) (hr : ∀ a b, (a, b) ∈ ps → r a < r b) (h8 : ∀ a, r a ≤ 8) : OrderOk m n (closedL ps) := by
  have rk : ∀ a b, (a, b) ∈ closedL ps → r a < r b := fun a b h => by
    obtain ⟨k, h⟩ := (mem_closedL hr h8).mp h
    have := h.rank hr
    have := h.pos
    simp only at *; omega
  refine ⟨n1, n2, m8, fun p hp => ?_, fun a b h h' => ?_, fun a b c h h' => ?_, closedL_sorted ps⟩
  · obtain ⟨⟨c, h1⟩, d, h2⟩ := Reach.ends ((mem_closedL hr h8).mp hp)
    have := hin _ h1
    have := hin _ h2
    simp only at *; omega
  · have := rk _ _ h
    have := rk _ _ h'
    omega
  · rw [mem_closedL hr h8] at *
    exact h.trans h'
def closE (dn : D) (s1 : Sl) (s2 : Sl) (f : List Pr) (o4 o5 o6 o7 o8 : Option D) (s9 : Sl) : En := [.v dn, s1, s2, .o false (.l (f.map pD)), slO o4, slO o5, slO o6, slO o7, slO o8, s9]
def PsIn8 (ps : List Pr) : Prop := ∀ p ∈ ps, 0 ≤ p.1 ∧ p.1 < 8 ∧ 0 ≤ p.2 ∧ p.2 < 8
theorem Cl.len {ps f : List Pr} (h : Cl ps f) (h8 : PsIn8 ps) : f.length ≤ ps.length + 64 := by
  obtain ⟨add, rfl, hn, hr⟩ := h
  have := nodup_le hn (m := square 8) fun x hx => mem_square (by
    obtain ⟨⟨c, h1⟩, d, h2⟩ := Reach.ends (hr x hx)
    have := h8 _ h1
    have := h8 _ h2
    simp only at *; omega)
  rw [square_len] at this
  rw [List.length_append]; omega
section
variable {C : Calls} {dn : D} {s1 s2 s9 : Sl} {ps : List Pr}
theorem clos_1 {f : List Pr} (hz : f.length < sizeLine) (a c : Int) (q : Pr) (o4 o7 o8 : Option D) :
    forStep (setT 2 (gsCons (setV 7) (gsCons (setV 8) (gsNil)))) (f_law_closed_L1 C) (pD q) (closE dn s1 s2 f o4 (some (.int a)) (some (.int c)) o7 o8 s9) = some (.nx, closE dn s1 s2 (clStep (a, c) f q) o4 (some (.int a)) (some (.int c)) (some (.int q.1)) (some (.int q.2)) s9) := by
  obtain ⟨d, b⟩ := q
  by_cases h : c = d ∧ (a, b) ∉ f
  · simp [forStep, f_law_closed_L1, closE, pD_mk, slO_some, clStep, eqv_int, PyData.depth, PyData.depthAll, any_pD', h, hz]
  · by_cases h1 : c = d
    · have h2 : (a, b) ∈ f := Classical.byContradiction fun z => h ⟨h1, z⟩
      simp [forStep, f_law_closed_L1, closE, pD_mk, slO_some, clStep, eqv_int, PyData.depth, PyData.depthAll, any_pD', h1, h2]
    · simp [forStep, f_law_closed_L1, closE, pD_mk, slO_some, clStep, eqv_int, PyData.depth, PyData.depthAll, any_pD', h1]
theorem clos_2 (h8 : PsIn8 ps) (hl : ps.length ≤ 1000) {f : List Pr} (hf : Cl ps f) {p : Pr} (hp : Reach ps p) (o4 o5 o6 o7 o8 : Option D) :
    ∃ o7' o8', forStep (setT 2 (gsCons (setV 5) (gsCons (setV 6) (gsNil)))) (f_law_closed_L2 C) (pD p) (closE dn s1 s2 f o4 o5 o6 o7 o8 s9) = some (.nx, closE dn s1 s2 (clIn p f) o4 (some (.int p.1)) (some (.int p.2)) o7' o8' s9) := by
  obtain ⟨a, c⟩ := p
  obtain ⟨ρ', h1, o7', o8', rfl⟩ := for_pre (tg := setT 2 (gsCons (setV 7) (gsCons (setV 8) (gsNil)))) (body := f_law_closed_L1 C) pD (fun l ρ => ∃ o7 o8 : Option D, ρ = closE dn s1 s2 (l.foldl (clStep (a, c)) f) o4 (some (.int a)) (some (.int c)) o7 o8 s9) f [] (closE dn s1 s2 f o4 (some (.int a)) (some (.int c)) o7 o8 s9) ⟨o7, o8, rfl⟩
    fun pre q post ρ e ⟨o7, o8, er⟩ => by
      subst er
      have hc : Cl ps (pre.foldl (clStep (a, c)) f) := Cl.fold hp pre f hf fun x hx => hf.reach x (by
        have : x ∈ pre ++ q :: post := List.mem_append_left _ hx
        rw [e] at this; simpa using this)
      have hz : (pre.foldl (clStep (a, c)) f).length < sizeLine := by
        have := hc.len h8
        rw [sizeLine_eq]; omega
      refine ⟨_, .inl (clos_1 hz a c q _ _ _), some (.int q.1), some (.int q.2), ?_⟩
      rw [List.foldl_append]; rfl
  refine ⟨o7', o8', ?_⟩
  have h1' := h1
  simp only [closE, List.nil_append, slO_some] at h1'
  simp [forStep, f_law_closed_L2, closE, pD_mk, slO_some, h1', clIn]
theorem clos_3 (h8 : PsIn8 ps) (hl : ps.length ≤ 1000) {f : List Pr} (hf : Cl ps f) (t : Int) (o4 o5 o6 o7 o8 : Option D) :
    ∃ o5' o6' o7' o8', forStep (setV 4) (f_law_closed_L3 C) (.int t) (closE dn s1 s2 f o4 o5 o6 o7 o8 s9) = some (.nx, closE dn s1 s2 (clTurn f) (some (.int t)) o5' o6' o7' o8' s9) := by
  obtain ⟨ρ', h1, o5', o6', o7', o8', rfl⟩ := for_pre (tg := setT 2 (gsCons (setV 5) (gsCons (setV 6) (gsNil)))) (body := f_law_closed_L2 C) pD (fun l ρ => ∃ o5 o6 o7 o8 : Option D, ρ = closE dn s1 s2 (l.foldl (fun g p => clIn p g) f) (some (.int t)) o5 o6 o7 o8 s9) f [] (closE dn s1 s2 f (some (.int t)) o5 o6 o7 o8 s9) ⟨o5, o6, o7, o8, rfl⟩
    fun pre q post ρ e ⟨o5, o6, o7, o8, er⟩ => by
      subst er
      have hm : ∀ x ∈ pre ++ q :: post, x ∈ f := fun x hx => by rw [e] at hx; simpa using hx
      have hc : Cl ps (pre.foldl (fun g p => clIn p g) f) := Cl.out pre f hf fun x hx => hf.reach x (hm x (List.mem_append_left _ hx))
      obtain ⟨o7', o8', h⟩ := clos_2 (C := C) (dn := dn) (s1 := s1) (s2 := s2) (s9 := s9) h8 hl hc (hf.reach q (hm q (List.mem_append_right _ List.mem_cons_self))) (some (.int t)) o5 o6 o7 o8
      refine ⟨_, .inl h, some (.int q.1), some (.int q.2), o7', o8', ?_⟩
      rw [List.foldl_append]; rfl
  refine ⟨o5', o6', o7', o8', ?_⟩
  have h1' := h1
  simp only [closE, List.nil_append, slO_some] at h1'
  simp [forStep, f_law_closed_L3, closE, slO_some, h1', clTurn]
theorem clos_4 {u : List Pr} (hz : u.length < sizeLine) (p : Pr) (s0 s1 s3 s4 s5 s6 s7 s8 : Sl) (o2 : Option D) :
    forStep (setV 2) (f_law_closed_L4 C) (pD p) [s0, s1, slO o2, s3, s4, s5, s6, s7, s8, .o false (.l (u.map pD))] = some (.nx, [s0, s1, slO (some (pD p)), s3, s4, s5, s6, s7, s8, .o false (.l ((if p ∈ u then u else u ++ [p]).map pD))]) := by
  obtain ⟨a, b⟩ := p
  by_cases h : (a, b) ∈ u
  · simp [forStep, f_law_closed_L4, pD_mk, slO_some, PyData.depth, PyData.depthAll, any_pD', h]
  · simp [forStep, f_law_closed_L4, pD_mk, slO_some, PyData.depth, PyData.depthAll, any_pD', h, hz]
theorem unl_len : ∀ (l u : List Pr), (l.foldl (fun u p => if p ∈ u then u else u ++ [p]) u).length ≤ u.length + l.length
  | [], u => by simp
  | p :: l, u => by
    rw [List.foldl_cons]
    refine Nat.le_trans (unl_len l _) ?_
    split
    · simp
    · simp; omega
theorem closed_run (h8 : PsIn8 ps) (hl : ps.length ≤ 1000) (ha : okArg s1 = true) (hc : f_law_closed_c1 C [.v dn, s1, .un, .un, .un, .un, .un, .un, .un, .un] = some (.fr (.l (ps.map pD)), [.v dn, s1, .un, .un, .un, .un, .un, .un, .un, .un]))
    (ho : ∀ t : En, outsOf [.v dn, s1] (.v dn :: s1 :: t) = [.v dn, s1]) : runFn f_law_closed C [.v dn, s1] = some (.ok (.v (.tuple ((closedL ps).map pD))) [.v dn, s1]) := by
  obtain ⟨o5, o6, o7, o8, e1⟩ := clos_3 (C := C) (dn := dn) (s1 := s1) (s2 := .un) (s9 := .un) h8 hl Cl.base 0 none none none none none
  obtain ⟨p5, p6, p7, p8, e2⟩ := clos_3 (C := C) (dn := dn) (s1 := s1) (s2 := .un) (s9 := .un) h8 hl Cl.base.turn 1 (some (.int 0)) o5 o6 o7 o8
  obtain ⟨q5, q6, q7, q8, e3⟩ := clos_3 (C := C) (dn := dn) (s1 := s1) (s2 := .un) (s9 := .un) h8 hl Cl.base.turn.turn 2 (some (.int 1)) p5 p6 p7 p8
  have loop1 : forGo (setV 4) (f_law_closed_L3 C) (rngL 0 3) (closE dn s1 .un ps none none none none none .un) = some (.nx, closE dn s1 .un (cl3 ps) (some (.int 2)) q5 q6 q7 q8 .un) := by
    show forGo (setV 4) (f_law_closed_L3 C) [.int (0 + ((0 : Nat) : Int)), .int (0 + ((1 : Nat) : Int)), .int (0 + ((2 : Nat) : Int))] _ = _
    unfold forStep at e1 e2 e3
    simp only [forGo, Int.zero_add]
    rw [Option.bind_eq_some_iff] at e1 e2 e3
    obtain ⟨r1, a1, b1⟩ := e1
    obtain ⟨r2, a2, b2⟩ := e2
    obtain ⟨r3, a3, b3⟩ := e3
    show (setV 4 (.int 0) _).bind _ = _
    rw [a1, Option.bind_some, b1, Option.bind_some]
    show (setV 4 (.int 1) _).bind _ = _
    rw [a2, Option.bind_some, b2, Option.bind_some]
    show (setV 4 (.int 2) _).bind _ = _
    rw [a3, Option.bind_some, b3, Option.bind_some]
    rfl
  have hcl := Cl.base.turn.turn.turn (ps := ps)
  have hlen : (cl3 ps).length ≤ 1064 := Nat.le_trans (hcl.len h8) (by omega)
  obtain ⟨ρ', l2, o2', hρ⟩ := for_pre (tg := setV 2) (body := f_law_closed_L4 C) pD (fun l ρ => ∃ o2 : Option D, ρ = [.v dn, s1, slO o2, .o false (.l ((cl3 ps).map pD)), slO (some (.int 2)), slO q5, slO q6, slO q7, slO q8, .o false (.l ((l.foldl (fun u p => if p ∈ u then u else u ++ [p]) []).map pD))]) (srtBy pD (cl3 ps)) [] [.v dn, s1, slO none, .o false (.l ((cl3 ps).map pD)), slO (some (.int 2)), slO q5, slO q6, slO q7, slO q8, .o false (.l [])] ⟨none, rfl⟩
    fun pre p post ρ e ⟨o2, er⟩ => by
      subst er
      have hz : (pre.foldl (fun u p => if p ∈ u then u else u ++ [p]) []).length < sizeLine := by
        have h1 := unl_len pre []
        have h2 : (pre ++ p :: post).length = (cl3 ps).length := by rw [e]; simp [srtBy_len]
        rw [List.length_append, List.length_cons] at h2
        simp only [List.length_nil] at h1
        rw [sizeLine_eq]; omega
      refine ⟨_, .inl (clos_4 hz p _ _ _ _ _ _ _ _ o2), some (pD p), ?_⟩
      rw [List.foldl_append]; rfl
  subst hρ
  have hsrt := sortB_pD (cl3 ps)
  simp only [closE, slO_none, slO_some] at loop1
  simp only [List.nil_append, slO_some, slO_none] at l2
  have hcd : (srtBy pD (cl3 ps)).foldl (fun u p => if p ∈ u then u else u ++ [p]) [] = closedL ps := rfl
  rw [hcd] at l2
  rw [runFn_eq rfl (by simp [ha])]
  simp [f_law_closed, hc, loop1, hsrt, srt_map, l2, ho]
theorem closed_tup (h8 : PsIn8 ps) (hl : ps.length ≤ 1000) : runFn f_law_closed C [.v dn, .v (.tuple (ps.map pD))] = some (.ok (.v (.tuple ((closedL ps).map pD))) [.v dn, .v (.tuple (ps.map pD))]) :=
  closed_run h8 hl rfl (xlc_all pD ps pD (ρ1 := [.v dn, .v (.tuple (ps.map pD)), .un, .un, .un, .un, .un, .un, .un, .un]) (lk := none) (by simp) rfl (by intro p hp; simp [lcStep]) (by simp)) fun _ => rfl
theorem closed_bor (h8 : PsIn8 ps) (hl : ps.length ≤ 1000) : runFn f_law_closed C [.v dn, .o true (.l (ps.map pD))] = some (.ok (.v (.tuple ((closedL ps).map pD))) [.v dn, .o true (.l (ps.map pD))]) :=
  closed_run h8 hl rfl (xlc_all pD ps pD (ρ1 := [.v dn, .o true (.l (ps.map pD)), .un, .un, .un, .un, .un, .un, .un, .un]) (lk := some 1) (by simp) rfl (by intro p hp; simp [lcStep]) (by simp)) fun _ => rfl
end
def graphD (n : Int) (ps : List Pr) : D := .tuple [.int n, .tuple (ps.map pD)]
@[simp] theorem ix_graph0 {n : Int} {ps : List Pr} : gIx (graphD n ps) (.int 0) = some (.v (.int n)) := (rfl)
@[simp] theorem ix_graph1 {n : Int} {ps : List Pr} : gIx (graphD n ps) (.int 1) = some (.v (.tuple (ps.map pD))) := (rfl)
theorem Draws.at {ds : List Int} {n : Nat} (h : Draws ds n) {i : Int} (h0 : 0 ≤ i) (h1 : i < n) : ∃ x, atI (ds.map PyData.int) i = some (.int x) ∧ 0 ≤ x ∧ x < 4096 := by
  have hi : i.toNat < ds.length := by rw [h.1]; omega
  refine ⟨ds[i.toNat], ?_, h.2 _ (List.getElem_mem hi)⟩
  rw [atI_in h0, List.getElem?_map, List.getElem?_eq_getElem hi]; rfl
theorem Draws.atM {ds : List Int} {n : Nat} (h : Draws ds n) (h0 : 0 < n) (i : Int) : ∃ x, atI (ds.map PyData.int) (i % n) = some (.int x) ∧ 0 ≤ x ∧ x < 4096 :=
  h.at (Int.emod_nonneg _ (by omega)) (Int.emod_lt_of_pos _ (by omega))
def namesE (dr : D) (at' n : Int) (left found : List Int) (o5 : Option D) : En := [.v dr, .v (.int at'), .v (.int n), .o false (.l (left.map .int)), .v (.tuple (found.map .int)), slO o5]
theorem ixN_in {n : Nat} {i : Int} (h0 : 0 ≤ i) (h1 : i < n) : ixN n i = some i.toNat := by
  unfold ixN
  rw [if_pos h0, if_pos h1]
theorem eraseIdx_perm {α : Type} : ∀ {l : List α} {j : Nat} (h : j < l.length), ([l[j]] ++ l.eraseIdx j).Perm l
  | a :: l, 0, _ => by simp
  | a :: l, j + 1, h => by
    have ih := eraseIdx_perm (l := l) (j := j) (by simpa using h)
    simp only [List.getElem_cons_succ, List.eraseIdx_cons_succ]
    exact (List.Perm.swap _ _ _).trans (List.Perm.cons a ih)
theorem eraseIdx_map' {α β : Type} (f : α → β) : ∀ (l : List α) (i : Nat), (l.map f).eraseIdx i = (l.eraseIdx i).map f
  | [], i => by simp
  | a :: l, 0 => by simp
  | a :: l, i + 1 => by simp [eraseIdx_map' f l i]
theorem perm_pop {found left : List Int} {j : Nat} (h : j < left.length) : ((found ++ [left[j]]) ++ left.eraseIdx j).Perm (found ++ left) := by
  rw [List.append_assoc]
  refine List.Perm.append_left _ ?_
  exact eraseIdx_perm h
theorem names_1 {C : Calls} {ds : List Int} {N : Nat} (hd : Draws ds N) (hN : 0 < N) (at' n : Int) (left found : List Int) (o5 : Option D) (k : Int) (hl : 0 < left.length) (hf : found.length ≤ 1000) :
    ∃ j, ∃ h : j < left.length, forStep (setV 5) (f_law_names_L1 C) (.int k) (namesE (.list (ds.map .int)) at' n left found o5) = some (.nx, namesE (.list (ds.map .int)) at' n (left.eraseIdx j) (found ++ [left[j]]) (some (.int k))) := by
  obtain ⟨x, hx, x0, x1⟩ := hd.atM hN (at' + k)
  have h0 : 0 ≤ x % left.length := Int.emod_nonneg _ (by omega)
  have h1 : x % left.length < left.length := Int.emod_lt_of_pos _ (by omega)
  have hj : (x % left.length).toNat < left.length := by omega
  refine ⟨(x % left.length).toNat, hj, ?_⟩
  have hz : found.length + 1 ≤ sizeLine := by rw [sizeLine_eq]; omega
  have hlen := hd.1
  have e1 : left[(x % (left.length : Int)).toNat]? = some left[(x % (left.length : Int)).toNat] := List.getElem?_eq_getElem hj
  have e2 : ∀ (l : List Int) (i : Nat), (l.map PyData.int).eraseIdx i = (l.eraseIdx i).map PyData.int := fun l i => eraseIdx_map' _ l i
  simp [forStep, f_law_names_L1, namesE, hlen, hN, hx, hl, ixN_in h0 h1, hj, e2, hz, slO_some]
theorem names_run {C : Calls} {ds : List Int} {N : Nat} (hd : Draws ds N) (hN : 0 < N) (at' n : Int) (h1 : 0 ≤ n) (h2 : n ≤ 100) :
    ∃ nms : List Int, nms.Perm (rngI 0 n.toNat) ∧ runFn f_law_names C [.v (.list (ds.map .int)), .v (.int at'), .v (.int n)] = some (.ok (.v (.tuple (nms.map .int))) [.v (.list (ds.map .int)), .v (.int at'), .v (.int n)]) := by
  obtain ⟨ρ', l1, left, found, o5, hρ, hp, hf⟩ := for_inv (tg := setV 5) (body := f_law_names_L1 C) (fun k ρ => ∃ (left found : List Int) (o5 : Option D), ρ = namesE (.list (ds.map .int)) at' n left found o5 ∧ (found ++ left).Perm (rngI 0 n.toNat) ∧ found.length = k) (rngL 0 n.toNat) 0 (namesE (.list (ds.map .int)) at' n (rngI 0 n.toNat) [] none) ⟨_, _, _, rfl, by simp, rfl⟩
    fun j d ρ hj ⟨left, found, o5, e, hp, hf⟩ => by
      subst e
      have hlt := (List.getElem?_eq_some_iff.mp hj).1
      rw [rngL_len] at hlt
      rw [rngL_get hlt] at hj
      cases hj
      have hl := hp.length_eq
      rw [List.length_append, rngI_len] at hl
      obtain ⟨i, hi, h⟩ := names_1 (C := C) hd hN at' n left found o5 (0 + (j : Int)) (by omega) (by omega)
      exact ⟨_, .inl h, _, _, _, rfl, (perm_pop hi).trans hp, by simp; omega⟩
  rw [Nat.zero_add, rngL_len] at hf
  have hl := hp.length_eq
  rw [List.length_append, rngI_len] at hl
  have : left = [] := List.eq_nil_of_length_eq_zero (by omega)
  subst this
  subst hρ
  refine ⟨found, by simpa using hp, ?_⟩
  have b1 : n.natAbs ≤ 1000000 := by omega
  simp only [namesE, slO_none, List.map_nil, ← rngL_map] at l1
  rw [runFn_eq rfl rfl]
  simp [f_law_names, b1, l1]
def specials : List (Int × List Pr) := [(1, []), (3, []), (4, [(0, 1), (1, 2), (2, 3)]), (4, [(0, 2), (1, 2), (1, 3)]), (4, [(0, 1), (2, 3)]), (4, [(0, 1), (1, 2)]),
  (6, [(0, 4), (0, 5), (1, 3), (1, 5), (2, 3), (2, 4)]), (5, [(0, 1), (0, 2), (0, 3), (0, 4), (1, 4), (2, 4), (3, 4)]),
  (5, [(0, 1), (0, 2), (0, 3), (0, 4), (1, 2), (1, 4), (2, 4), (3, 4)]), (4, [(0, 1), (0, 2), (1, 3), (2, 3)]),
  (6, [(0, 1), (0, 2), (1, 3), (1, 4), (2, 4), (2, 5)]), (5, [(0, 2), (0, 3), (1, 2), (1, 3), (2, 4), (3, 4)])]
theorem specials_ok : ∀ x ∈ specials, 1 ≤ x.1 ∧ x.1 ≤ 8 ∧ x.2.length ≤ 10 ∧ ∀ p ∈ x.2, 0 ≤ p.1 ∧ p.1 < p.2 ∧ p.2 < x.1 := by decide
theorem special_run {C : Calls} (hC : ∀ (n : Int) (ps : List Pr), PsIn8 ps → ps.length ≤ 1000 → C (Str.ofString "_law_closed") [.v (.int n), .v (.tuple (ps.map pD))] = some (.ok (.v (.tuple ((closedL ps).map pD))) [.v (.int n), .v (.tuple (ps.map pD))])) (x : Int) :
    ∃ n qs, OrderOk 8 n qs ∧ runFn f_law_special C [.v (.int x)] = some (.ok (.v (graphD n qs)) [.v (.int x)]) := by
  have h0 : 0 ≤ x % 12 := by omega
  have h1 : (x % 12).toNat < specials.length := by show _ < 12; omega
  have hm : specials[(x % 12).toNat] ∈ specials := List.getElem_mem h1
  generalize hg : specials[(x % 12).toNat] = sp at hm
  have ok := specials_ok sp hm
  obtain ⟨n, ps⟩ := sp
  simp only at ok
  obtain ⟨k1, k2, k3, k4⟩ := ok
  have hat : atI (specials.map fun p => graphD p.1 p.2) (x % 12) = some (graphD n ps) := by
    rw [atI_in h0, List.getElem?_map, List.getElem?_eq_getElem h1, hg]; rfl
  refine ⟨n, closedL ps, order_of (r := fun a => min a.toNat 8) k1 k2 (by omega) (fun p hp => ?_) (fun a b hab => ?_) (fun a => Nat.min_le_right _ _), ?_⟩
  · have := k4 p hp; omega
  · have := k4 _ hab
    simp only at this ⊢
    omega
  · have hc := hC n ps (fun p hp => by have := k4 p hp; omega) (by omega)
    have hr : (specials.map fun p => graphD p.1 p.2) = _ := rfl
    simp only [specials, List.map_cons, List.map_nil, graphD, pD] at hat
    rw [runFn_eq rfl rfl]
    simp [f_law_special, hat, hc, sizeLine_eq]
    rfl
def orderE (ds : List Int) (most n : Int) (s3 : Sl) (nms : List Int) (dense : Int) (ps : List Pr) (at' : Int) (s8 s9 : Option D) : En := [.v (.list (ds.map .int)), .v (.int most), .v (.int n), s3, .v (.tuple (nms.map .int)), .v (.int dense), .o false (.l (ps.map pD)), .v (.int at'), slO s8, slO s9]
def NmIn (nms : List Int) (ps : List Pr) : Prop := ∀ p ∈ ps, ∃ a b : Nat, a < b ∧ nms[a]? = some p.1 ∧ nms[b]? = some p.2
theorem order_1 {C : Calls} {ds : List Int} {N : Nat} (hd : Draws ds N) (hN : 0 < N) (hN2 : N ≤ 1000) (most n dense at' : Int) (hat : 0 ≤ at') (hat2 : at' ≤ 1000) (hde : 0 < dense) (s3 : Sl) (nms : List Int) (s9 : Option D) (ps : List Pr) (hl : ps.length ≤ 1000) (hp : NmIn nms ps) (a b : Nat) (hab : a < b) (hb : b < nms.length) :
    ∃ ps', NmIn nms ps' ∧ ps'.length ≤ ps.length + 1 ∧ forStep (setV 9) (f_law_order_L1 C) (.int a) (orderE ds most n s3 nms dense ps at' (some (.int b)) s9) = some (.nx, orderE ds most n s3 nms dense ps' (at' + 1) (some (.int b)) (some (.int a))) := by
  obtain ⟨x, hx, hx1, hx2⟩ := hd.atM hN at'
  have hlen : ds.length = N := hd.1
  have hz : ps.length < sizeLine := by rw [sizeLine_eq]; omega
  have e3 : (0 : Int) ≤ at' / N := Int.ediv_nonneg hat (by omega)
  have e4 : at' / N ≤ 1000 := Int.le_trans (Int.ediv_le_self _ hat) hat2
  have e5 : 0 < 1 + at' / (N : Int) := by omega
  have e6 : (1 + at' / (N : Int)).toNat < 1073741824 := by omega
  have e8 : N < 1073741824 := by omega
  have ha : a < nms.length := by omega
  have qa : atI (nms.map PyData.int) (a : Int) = some (.int nms[a]) := by rw [atI_nat', List.getElem?_map, List.getElem?_eq_getElem ha]; rfl
  have qb : atI (nms.map PyData.int) (b : Int) = some (.int nms[b]) := by rw [atI_nat', List.getElem?_map, List.getElem?_eq_getElem hb]; rfl
  by_cases hc : x / (1 + at' / ↑N) % dense = 0
  · refine ⟨ps ++ [(nms[a], nms[b])], fun p hp' => ?_, by simp, ?_⟩
    · rcases List.mem_append.mp hp' with h | h
      · exact hp p h
      · have : p = (nms[a], nms[b]) := by simpa using h
        subst this
        exact ⟨a, b, hab, List.getElem?_eq_getElem ha, List.getElem?_eq_getElem hb⟩
    · simp [forStep, f_law_order_L1, orderE, hlen, hx, e5, e6, hde, hN, e8, eqv_int, hz, PyData.depth, hc, slO_some, pD, qa, qb]
  · refine ⟨ps, hp, by omega, ?_⟩
    simp [forStep, f_law_order_L1, orderE, hlen, hx, e5, e6, hde, hN, e8, eqv_int, hz, PyData.depth, hc, slO_some, pD]
theorem order_2 {C : Calls} {ds : List Int} {N : Nat} (hd : Draws ds N) (hN : 0 < N) (hN2 : N ≤ 1000) (most n dense at' : Int) (hat : 0 ≤ at') (b : Nat) (hat2 : at' ≤ 12 + 10 * b) (hde : 0 < dense) (s3 : Sl) (nms : List Int) (s8 s9 : Option D) (ps : List Pr) (hl : ps.length ≤ 10 * b) (hp : NmIn nms ps) (hb : b < nms.length) (hb8 : nms.length ≤ 8) :
    ∃ (ps' : List Pr) (at2 : Int) (s9' : Option D), NmIn nms ps' ∧ ps'.length ≤ 10 * (b + 1) ∧ 0 ≤ at2 ∧ at2 ≤ 12 + 10 * (b + 1 : Nat) ∧ forStep (setV 8) (f_law_order_L2 C) (.int b) (orderE ds most n s3 nms dense ps at' s8 s9) = some (.nx, orderE ds most n s3 nms dense ps' at2 (some (.int b)) s9') := by
  obtain ⟨ρ', h1, ps', at2, s9', rfl, h2, h3, h4, h6⟩ := for_inv (tg := setV 9) (body := f_law_order_L1 C) (fun j ρ => ∃ (ps' : List Pr) (at2 : Int) (s9' : Option D), ρ = orderE ds most n s3 nms dense ps' at2 (some (.int b)) s9' ∧ NmIn nms ps' ∧ ps'.length ≤ ps.length + j ∧ 0 ≤ at2 ∧ at2 ≤ at' + j) (rngL 0 b) 0 (orderE ds most n s3 nms dense ps at' (some (.int b)) s9) ⟨ps, at', s9, rfl, hp, Nat.le_refl _, hat, by omega⟩
    fun j d ρ hj ⟨ps1, at1, s91, e, q1, q2, q3, q4⟩ => by
      subst e
      have hlt := (List.getElem?_eq_some_iff.mp hj).1
      rw [rngL_len] at hlt
      rw [rngL_get hlt] at hj
      cases hj
      rw [Int.zero_add]
      obtain ⟨ps2, r1, r2, r3⟩ := order_1 (C := C) hd hN hN2 most n dense at1 q3 (by omega) hde s3 nms s91 ps1 (by omega) q1 j b hlt hb
      exact ⟨_, .inl r3, ps2, at1 + 1, some (.int j), rfl, r1, by omega, by omega, by omega⟩
  rw [Nat.zero_add, rngL_len] at h3 h6
  refine ⟨ps', at2, s9', h2, by omega, h4, by omega, ?_⟩
  have b1 : b ≤ 1000000 := by omega
  have h1' := h1
  simp only [orderE, slO_some] at h1'
  simp [forStep, f_law_order_L2, orderE, b1, slO_some, h1']
theorem idx_get {nms : List Int} (hn : nms.Nodup) {a : Nat} {x : Int} (h : nms[a]? = some x) : nms.idxOf x = a := by
  obtain ⟨ha, rfl⟩ := List.getElem?_eq_some_iff.mp h
  exact List.Nodup.idxOf_getElem hn a ha
structure HasOrder (T : Tab) : Prop where
  closed : T.lookup (Str.ofString "_law_closed") = some f_law_closed
  names : T.lookup (Str.ofString "_law_names") = some f_law_names
  special : T.lookup (Str.ofString "_law_special") = some f_law_special
  order : T.lookup (Str.ofString "_law_order") = some f_law_order
theorem order_run {C : Calls} (hT : ∀ (n : Int) (ps : List Pr), PsIn8 ps → ps.length ≤ 1000 → C (Str.ofString "_law_closed") [.v (.int n), .o true (.l (ps.map pD))] = some (.ok (.v (.tuple ((closedL ps).map pD))) [.v (.int n), .o true (.l (ps.map pD))]))
    (hS : ∀ x : Int, ∃ n qs, OrderOk 8 n qs ∧ C (Str.ofString "_law_special") [.v (.int x)] = some (.ok (.v (graphD n qs)) [.v (.int x)]))
    {ds : List Int} {N : Nat} (hd : Draws ds N) (h5 : 3 ≤ N) (hN : N ≤ 1000) (hM : ∀ n : Int, 0 ≤ n → n ≤ 100 → ∃ nms : List Int, nms.Perm (rngI 0 n.toNat) ∧ C (Str.ofString "_law_names") [.v (.list (ds.map .int)), .v (.int 3), .v (.int n)] = some (.ok (.v (.tuple (nms.map .int))) [.v (.list (ds.map .int)), .v (.int 3), .v (.int n)]))
    (most : Int) (hm : 1 ≤ most ∧ most ≤ 8) :
    ∃ n ps, OrderOk most n ps ∧ runFn f_law_order C [.v (.list (ds.map .int)), .v (.int most)] = some (.ok (.v (graphD n ps)) [.v (.list (ds.map .int)), .v (.int most)]) := by
  obtain ⟨x0, hx0, a0, b0⟩ := hd.at (i := 0) (by omega) (by omega)
  obtain ⟨x1, hx1, a1, b1⟩ := hd.at (i := 1) (by omega) (by omega)
  obtain ⟨x2, hx2, a2, b2⟩ := hd.at (i := 2) (by omega) (by omega)
  have hm0 : 0 < most := by omega
  obtain ⟨dense, hde, hdn⟩ : ∃ dense : Int, 0 < dense ∧ atI [PyData.int 2, .int 3, .int 5, .int 8] (x1 / 6 % 4) = some (.int dense) := by
    have : x1 / 6 % 4 = 0 ∨ x1 / 6 % 4 = 1 ∨ x1 / 6 % 4 = 2 ∨ x1 / 6 % 4 = 3 := by omega
    rcases this with h | h | h | h <;> rw [h]
    · exact ⟨2, by omega, rfl⟩
    · exact ⟨3, by omega, rfl⟩
    · exact ⟨5, by omega, rfl⟩
    · exact ⟨8, by omega, rfl⟩
  have hn : 1 ≤ 1 + x0 % most ∧ 1 + x0 % most ≤ most := by
    have := Int.emod_nonneg x0 (show most ≠ 0 by omega)
    have := Int.emod_lt_of_pos x0 hm0
    omega
  generalize hnn : 1 + x0 % most = n at hn
  obtain ⟨nms, hpm, hnm⟩ := hM n (by omega) (by omega)
  have hnl : nms.length = n.toNat := by rw [hpm.length_eq, rngI_len]
  have hnd : nms.Nodup := hpm.nodup_iff.mpr (by
    unfold rngI
    rw [List.nodup_iff_pairwise_ne, List.pairwise_map]
    exact List.nodup_range.imp fun h z => h (by omega))
  have hmem : ∀ x ∈ nms, 0 ≤ x ∧ x < n := fun x hx => by
    have := mem_rngI.mp (hpm.mem_iff.mp hx)
    omega
  have loop : ∀ s3 : Sl, ∃ (ps : List Pr) (at2 : Int) (s8 s9 : Option D), NmIn nms ps ∧ ps.length ≤ 100 ∧ forGo (setV 8) (f_law_order_L2 C) (rngL 0 n.toNat) (orderE ds most n s3 nms dense [] 12 none none) = some (.nx, orderE ds most n s3 nms dense ps at2 s8 s9) := fun s3 => by
    obtain ⟨ρ', h1, ps', at2, s8', s9', rfl, h2, h3, h4, h6⟩ := for_inv (tg := setV 8) (body := f_law_order_L2 C) (fun j ρ => ∃ (ps' : List Pr) (at2 : Int) (s8' s9' : Option D), ρ = orderE ds most n s3 nms dense ps' at2 s8' s9' ∧ NmIn nms ps' ∧ ps'.length ≤ 10 * j ∧ 0 ≤ at2 ∧ at2 ≤ 12 + 10 * j) (rngL 0 n.toNat) 0 (orderE ds most n s3 nms dense [] 12 none none) ⟨[], 12, none, none, rfl, (fun p hp => by cases hp), Nat.le_refl _, by omega, by omega⟩
      fun j d ρ hj ⟨ps1, at1, s81, s91, e, q1, q2, q3, q4⟩ => by
        subst e
        have hlt := (List.getElem?_eq_some_iff.mp hj).1
        rw [rngL_len] at hlt
        rw [rngL_get hlt] at hj
        cases hj
        rw [Nat.zero_add] at q2 q4
        rw [Int.zero_add, Nat.zero_add]
        obtain ⟨ps2, at2, s92, r1, r2, r3, r4, r5⟩ := order_2 (C := C) hd (by omega) hN most n dense at1 q3 j q4 hde s3 nms s81 s91 ps1 q2 q1 (by omega) (by omega)
        exact ⟨_, .inl r5, ps2, at2, some (.int j), s92, rfl, r1, r2, r3, r4⟩
    rw [Nat.zero_add, rngL_len] at h3
    exact ⟨ps', at2, s8', s9', h2, by omega, h1⟩
  have fin : ∀ (ps : List Pr), NmIn nms ps → OrderOk most n (closedL ps) ∧ PsIn8 ps := fun ps hp => by
    have hin : ∀ p ∈ ps, 0 ≤ p.1 ∧ p.1 < n ∧ 0 ≤ p.2 ∧ p.2 < n := fun p h => by
      obtain ⟨a, b, _, h1, h2⟩ := hp p h
      have := hmem _ (List.mem_of_getElem? h1)
      have := hmem _ (List.mem_of_getElem? h2)
      omega
    refine ⟨order_of (r := fun x => nms.idxOf x) hn.1 hn.2 hm.2 hin (fun a b h => ?_) (fun a => ?_), fun p h => ?_⟩
    · obtain ⟨i, j, hij, h1, h2⟩ := hp _ h
      show nms.idxOf a < nms.idxOf b
      rw [idx_get hnd h1, idx_get hnd h2]; exact hij
    · have := List.idxOf_le_length (l := nms) (a := a)
      show nms.idxOf a ≤ 8
      omega
    · have := hin p h; omega
  have hnb : n.natAbs ≤ 1000000 := by omega
  by_cases hs : x1 % 6 = 1
  · obtain ⟨n', qs, ok, hq⟩ := hS x2
    by_cases hle : n' ≤ most
    · refine ⟨n', qs, ⟨ok.n1, hle, hm.2, ok.inn, ok.asym, ok.trans, ok.sorted⟩, ?_⟩
      rw [runFn_eq rfl rfl]
      simp [f_law_order, hx0, hx1, hx2, hm0, eqv_int, PyData.depth, hs, hq, hle]
    · obtain ⟨ps, at2, s8, s9, h1, h2, h3⟩ := loop (.v (graphD n' qs))
      obtain ⟨ok2, in8⟩ := fin ps h1
      refine ⟨n, closedL ps, ok2, ?_⟩
      have hc := hT n ps in8 (by omega)
      simp only [orderE, slO_none, slO_some, List.map_nil] at h3
      rw [runFn_eq rfl rfl]
      simp [f_law_order, hx0, hx1, hx2, hm0, eqv_int, PyData.depth, hs, hq, hle, hnn, hnm, hdn, hnb, h3, hc]
      rfl
  · obtain ⟨ps, at2, s8, s9, h1, h2, h3⟩ := loop .un
    obtain ⟨ok2, in8⟩ := fin ps h1
    refine ⟨n, closedL ps, ok2, ?_⟩
    have hc := hT n ps in8 (by omega)
    simp only [orderE, slO_none, slO_some, List.map_nil] at h3
    rw [runFn_eq rfl rfl]
    simp [f_law_order, hx0, hx1, hx2, hm0, eqv_int, PyData.depth, hs, hnn, hnm, hdn, hnb, h3, hc]
    rfl
theorem sp_order {T : Tab} (h : HasOrder T) {ds : List Int} {N : Nat} (hd : Draws ds N) (h5 : 3 ≤ N) (hN : N ≤ 1000) (most : Int) (hm : 1 ≤ most ∧ most ≤ 8) (k : Nat) (hk : 3 ≤ k) :
    ∃ n ps, OrderOk most n ps ∧ callF T k (Str.ofString "_law_order") [.v (.list (ds.map .int)), .v (.int most)] = some (.ok (.v (graphD n ps)) [.v (.list (ds.map .int)), .v (.int most)]) := by
  match k, hk with
  | k + 3, _ =>
    have cl : ∀ j (dn : D) (ps : List Pr), PsIn8 ps → ps.length ≤ 1000 → callF T (j + 1) (Str.ofString "_law_closed") [.v dn, .v (.tuple (ps.map pD))] = some (.ok (.v (.tuple ((closedL ps).map pD))) [.v dn, .v (.tuple (ps.map pD))]) := fun j dn ps h1 h2 => sp_of (n := 0) h.closed (fun _ _ => closed_tup h1 h2) (j + 1) (by omega)
    have clb : ∀ j (dn : D) (ps : List Pr), PsIn8 ps → ps.length ≤ 1000 → callF T (j + 1) (Str.ofString "_law_closed") [.v dn, .o true (.l (ps.map pD))] = some (.ok (.v (.tuple ((closedL ps).map pD))) [.v dn, .o true (.l (ps.map pD))]) := fun j dn ps h1 h2 => sp_of (n := 0) h.closed (fun _ _ => closed_bor h1 h2) (j + 1) (by omega)
    have sp : ∀ x : Int, ∃ n qs, OrderOk 8 n qs ∧ callF T (k + 2) (Str.ofString "_law_special") [.v (.int x)] = some (.ok (.v (graphD n qs)) [.v (.int x)]) := fun x => by
      obtain ⟨n, qs, h1, h2⟩ := special_run (C := callF T (k + 1)) (fun n ps => cl k (.int n) ps) x
      refine ⟨n, qs, h1, ?_⟩
      show (match T.lookup (Str.ofString "_law_special") with | some d => runFn d (callF T (k + 1)) _ | none => none) = _
      rw [h.special]; exact h2
    have nm : ∀ n : Int, 0 ≤ n → n ≤ 100 → ∃ nms : List Int, nms.Perm (rngI 0 n.toNat) ∧ callF T (k + 2) (Str.ofString "_law_names") [.v (.list (ds.map .int)), .v (.int 3), .v (.int n)] = some (.ok (.v (.tuple (nms.map .int))) [.v (.list (ds.map .int)), .v (.int 3), .v (.int n)]) := fun n h1 h2 => by
      obtain ⟨nms, q1, q2⟩ := names_run (C := callF T (k + 1)) hd (by omega) 3 n h1 h2
      refine ⟨nms, q1, ?_⟩
      show (match T.lookup (Str.ofString "_law_names") with | some d => runFn d (callF T (k + 1)) _ | none => none) = _
      rw [h.names]; exact q2
    obtain ⟨n, ps, h1, h2⟩ := order_run (C := callF T (k + 2)) (fun n ps => clb (k + 1) (.int n) ps) sp hd h5 hN nm most hm
    refine ⟨n, ps, h1, ?_⟩
    show (match T.lookup (Str.ofString "_law_order") with | some d => runFn d (callF T (k + 2)) _ | none => none) = _
    rw [h.order]; exact h2
theorem callF_eq {T : Tab} {k : Nat} {x : Str} {args : En} {d : FnD} (h : T.lookup x = some d) : callF T (k + 1) x args = runFn d (callF T k) args := by
  show (match T.lookup x with | some d => runFn d (callF T k) args | none => none) = _
  rw [h]
structure HasDraws (T : Tab) : Prop where
  cell : T.lookup (Str.ofString "_law_cell") = some f_law_cell
  draws : T.lookup (Str.ofString "_law_draws") = some f_law_draws
theorem sp_draws {T : Tab} (h : HasDraws T) (z : Int) (n : Int) (hn : 0 ≤ n ∧ n ≤ 1000) (k : Nat) (hk : 1 ≤ k) : ∃ ds, Draws ds n.toNat ∧ callF T k (Str.ofString "_law_draws") [.v (.int z), .v (.int n)] = some (.ok (.fr (.l (ds.map .int))) [.v (.int z), .v (.int n)]) := by
  obtain ⟨n, rfl⟩ := Int.eq_ofNat_of_zero_le hn.1
  match k, hk with
  | k + 1, _ => rw [callF_eq h.draws]; exact draws_run z n (by omega)
@[simp] theorem g_max2I {a b : Int} : gMax2 (.int a) (.int b) = some (.v (.int (if b > a then b else a))) := (rfl)
def gt (l : List Int) (a : Int) : Int := (l[a.toNat]?).getD 0
@[simp] theorem setT_graph {gs : Tgts} {n : Int} {ps : List Pr} {ρ : En} : setT 2 gs (graphD n ps) ρ = gs [.int n, .tuple (ps.map pD)] ρ := (rfl)
@[simp] theorem setT_pD {gs : Tgts} {p : Pr} {ρ : En} : setT 2 gs (pD p) ρ = gs [.int p.1, .int p.2] ρ := (rfl)
section
variable {C : Calls} {n : Int} {ps : List Pr}
theorem flat_len {α β : Type} (f : α → List β) (m : Nat) : ∀ l : List α, (∀ a ∈ l, (f a).length ≤ m) → (l.flatMap f).length ≤ l.length * m
  | [], _ => by simp
  | a :: l, h => by
    rw [List.flatMap_cons, List.length_append, List.length_cons, Nat.add_mul]
    have := flat_len f m l fun b hb => h b (List.mem_cons_of_mem _ hb)
    have := h a List.mem_cons_self
    omega
end
theorem rngI_pairwise (n : Nat) : (rngI 0 n).Pairwise (· < ·) := by
  unfold rngI
  rw [List.pairwise_map]
  exact List.pairwise_lt_range.imp fun h => by omega
def swp (p : Pr) : Pr := (p.2, p.1)
def turnedL (ps : List Pr) : List Pr := srtBy pD (ps.map swp)
theorem mem_turnedL {ps : List Pr} {a b : Int} : (a, b) ∈ turnedL ps ↔ (b, a) ∈ ps := by
  unfold turnedL
  rw [mem_srtBy, List.mem_map]
  constructor
  · rintro ⟨p, h, e⟩; cases e; exact h
  · intro h; exact ⟨_, h, rfl⟩
theorem strict_of {l : List Pr} (h : l.Pairwise ple) (hn : l.Nodup) : l.Pairwise plt := by
  rw [List.nodup_iff_pairwise_ne] at hn
  exact (h.and hn).imp fun {a b} q => ple_ne q.1 q.2
theorem srtBy_strict {l : List Pr} (hn : l.Nodup) : (srtBy pD l).Pairwise plt := strict_of (srtBy_pD l) ((srtBy_perm pD l).nodup_iff.mpr hn)
structure Nms (n : Int) (nms : List Int) : Prop where
  perm : nms.Perm (rngI 0 n.toNat)
theorem rngI_nodup (n : Nat) : (rngI 0 n).Nodup := by
  rw [List.nodup_iff_pairwise_ne]
  exact (rngI_pairwise n).imp fun h => by omega
theorem Nms.len {n : Int} {nms : List Int} (h : Nms n nms) : nms.length = n.toNat := by rw [h.perm.length_eq, rngI_len]
theorem Nms.nodup {n : Int} {nms : List Int} (h : Nms n nms) : nms.Nodup := h.perm.nodup_iff.mpr (rngI_nodup _)
theorem Nms.inj {n : Int} {nms : List Int} (h : Nms n nms) {a b : Int} (a0 : 0 ≤ a) (a1 : a < n) (b0 : 0 ≤ b) (b1 : b < n) (e : gt nms a = gt nms b) : a = b := by
  have ha : a.toNat < nms.length := by rw [h.len]; omega
  have hb : b.toNat < nms.length := by rw [h.len]; omega
  have e1 : nms[a.toNat]? = some (gt nms a) := by unfold gt; rw [List.getElem?_eq_getElem ha]; rfl
  have e2 : nms[b.toNat]? = some (gt nms b) := by unfold gt; rw [List.getElem?_eq_getElem hb]; rfl
  have := idx_get h.nodup e1
  have := idx_get h.nodup e2
  rw [e] at *
  omega
structure HasLattice (T : Tab) : Prop extends HasOrder T where
  lrenamed : T.lookup (Str.ofString "_law_renamed") = some f_law_renamed
  lattice : T.lookup (Str.ofString "_law_lattice") = some f_law_lattice
theorem Draws.drop {ds : List Int} {n : Nat} (h : Draws ds n) (k : Nat) : Draws (ds.drop k) (n - k) := ⟨by rw [List.length_drop, h.1], fun x hx => h.2 x (List.mem_of_mem_drop hx)⟩
section
variable {α β γ δ ε : Type}
def eT2 (f : α → D) (g : β → D) (p : α × β) : D := .tuple [f p.1, g p.2]
def eT (f : α → D) (l : List α) : D := .tuple (l.map f)
def eL (f : α → D) (l : List α) : D := .list (l.map f)
def eA (d : D) : D := d
def EqE [DecidableEq α] (e : α → D) : Prop := ∀ a b, PyData.eqv (e a) (e b) = decide (a = b)
def DpE (e : α → D) (n : Nat) : Prop := ∀ a, (e a).depth ≤ n
def AlE (e : α → D) : Prop := ∀ a b, PySem.W.alike (e a) (e b) = true
end
theorem DpE.mono {α : Type} {e : α → D} {m n : Nat} (h : DpE e m) (q : m ≤ n) : DpE e n := fun a => Nat.le_trans (h a) q
theorem dp_int {n : Nat} : DpE PyData.int n := fun a => by simp [PyData.depth]
section
variable {α β γ δ ε : Type} {f : α → D} {g : β → D} {h : γ → D} {i : δ → D} {j : ε → D} {n : Nat}
theorem dp_2 (a : DpE f n) (b : DpE g n) : DpE (eT2 f g) (n + 1) := fun p => by
  have := a p.1; have := b p.2
  simp only [eT2, PyData.depth, PyData.depthAll]; omega
theorem dpAll_map (a : DpE f n) (l : List α) : PyData.depthAll (l.map f) ≤ n := depthAll_le fun d hd => by
  obtain ⟨x, _, rfl⟩ := List.mem_map.mp hd
  exact a x
theorem dp_T (a : DpE f n) : DpE (eT f) (n + 1) := fun l => by
  have := dpAll_map a l
  simp only [eT, PyData.depth]; omega
theorem dp_L (a : DpE f n) : DpE (eL f) (n + 1) := fun l => by
  have := dpAll_map a l
  simp only [eL, PyData.depth]; omega
theorem eq_int : EqE PyData.int := eqv_int
variable [DecidableEq α] [DecidableEq β] [DecidableEq γ] [DecidableEq δ] [DecidableEq ε]
theorem eq_2 (a : EqE f) (b : EqE g) : EqE (eT2 f g) := fun p q => by
  obtain ⟨p1, p2⟩ := p; obtain ⟨q1, q2⟩ := q
  simp only [eT2, PyData.eqv, PyData.eqvAll, Bool.and_true, a p1 q1, b p2 q2, Prod.mk.injEq]
  by_cases h1 : p1 = q1 <;> by_cases h2 : p2 = q2 <;> simp [h1, h2]
theorem eqAll_map (a : EqE f) : ∀ l m : List α, PyData.eqvAll (l.map f) (m.map f) = decide (l = m)
  | [], [] => rfl
  | [], y :: m => by simp [PyData.eqvAll]
  | x :: l, [] => by simp [PyData.eqvAll]
  | x :: l, y :: m => by
    simp only [List.map_cons, PyData.eqvAll, a x y, eqAll_map a l m]
    by_cases h1 : x = y <;> by_cases h2 : l = m <;> simp [h1, h2]
theorem eq_T (a : EqE f) : EqE (eT f) := fun l m => by
  simp only [eT, PyData.eqv]; exact eqAll_map a l m
def NnE {α : Type} (f : α → D) : Prop := ∀ a, isNone (f a) = false
end
section
variable {α β γ δ ε : Type} {f : α → D} {g : β → D} {h : γ → D} {i : δ → D} {j : ε → D} {n : Nat}
theorem nn_int : NnE PyData.int := fun _ => rfl
theorem nn_2 : NnE (eT2 f g) := fun _ => rfl
theorem al_int : AlE PyData.int := fun _ _ => by simp [PySem.W.alike]
theorem al_2 (a : AlE f) (b : AlE g) : AlE (eT2 f g) := fun p q => by simp [eT2, PySem.W.alike, PySem.W.alikeAll, a p.1 q.1, b p.2 q.2]
theorem alAll_map (a : AlE f) : ∀ l m : List α, PySem.W.alikeAll (l.map f) (m.map f) = true
  | [], m => by simp [PySem.W.alikeAll]
  | x :: l, [] => by simp [PySem.W.alikeAll]
  | x :: l, y :: m => by simp only [List.map_cons, PySem.W.alikeAll, a x y, alAll_map a l m, Bool.and_self]
theorem al_T (a : AlE f) : AlE (eT f) := fun l m => by simp only [eT, PySem.W.alike]; exact alAll_map a l m
def SrE (e : α → D) : Prop := ∀ l : List α, sortB (l.map e) = true
theorem sr_tup (a : AlE f) (b : DpE f 64) (c : ∀ x, isTupC (f x) = true) : SrE f := fun l => sortB_tup (fun x y _ _ => a x y) (fun x _ => c x) fun x _ => b x
end
def EX (f : Ex) (ρ : En) (d : D) : Prop := f ρ = some (.v d, ρ)
def EF (f : Ex) (ρ : En) (ds : List D) : Prop := f ρ = some (.fr (.l ds), ρ)
def EW (f : Ex) (ρ : En) (d : D) : Prop := stl f ρ = some (.v d, ρ)
def EV (f : Ex) (ρ : En) (d : D) : Prop := ∃ x, f ρ = some (x, ρ) ∧ look ρ x = some d
def TV (t : Tst) (ρ : En) (b : Bool) : Prop := t ρ = some (b, ρ)
section
variable {ρ : En} {f f1 f2 f3 : Ex} {t t1 t2 : Tst} {d d1 d2 d3 e : D} {ds es : List D} {i : Nat} {b b1 b2 : Bool}
theorem EX.ew (h : EX f ρ d) : EW f ρ d := by unfold EX at h; unfold EW stl; rw [h]; rfl
theorem EF.ew (h : EF f ρ ds) : EW f ρ (.list ds) := by unfold EF at h; unfold EW stl; rw [h]; rfl
theorem EW.ev (h : EW f ρ d) : EV f ρ d := by
  obtain ⟨y, e1, e2⟩ := stl_some h
  refine ⟨y, e1, ?_⟩
  cases y with
  | v d' => cases e2; rfl
  | sl j => cases e2
  | fr c => cases c <;> cases e2; rfl
theorem EX.ev (h : EX f ρ d) : EV f ρ d := h.ew.ev
theorem EF.ev (h : EF f ρ ds) : EV f ρ (.list ds) := h.ew.ev
theorem EV.stl (h : EV f ρ d) : ∃ x, stl f ρ = some (x, ρ) ∧ look ρ x = some d := by
  obtain ⟨x, h1, h2⟩ := h
  refine ⟨x.stl, by unfold R.stl; rw [h1]; rfl, ?_⟩
  cases x with
  | v d' => exact h2
  | sl j => exact h2
  | fr c => cases c with
    | l _ => exact h2
    | m _ => cases h2
    | s _ => cases h2
    | n _ => cases h2
theorem ex_v (h : ρ[i]? = some (.v d)) : EX (xv i) ρ d := by unfold EX xv; rw [h]
theorem ev_o {b : Bool} (h : ρ[i]? = some (.o b (.l ds))) : EV (xv i) ρ (.list ds) := ⟨.sl i, by unfold xv; rw [h], by unfold look; simp only [h]⟩
theorem ex_c : EX (xc d) ρ d := rfl
theorem x1_eq {g : D → Option XV} {z : XV} (h : EV f ρ d) (hg : g d = some z) : x1 g f ρ = some (z, ρ) := by
  obtain ⟨x, h1, h2⟩ := h
  unfold x1; rw [h1, Option.bind_some]; simp only [h2, Option.bind_some, hg, Option.map_some]
theorem x2_eq {g : D → D → Option XV} {z : XV} (h : EV f1 ρ d1) (h' : EV f2 ρ d2) (hg : g d1 d2 = some z) : x2 g f1 f2 ρ = some (z, ρ) := by
  obtain ⟨x, h1, h2⟩ := h.stl
  obtain ⟨y, h3, h4⟩ := h'.stl
  unfold x2; rw [h1, Option.bind_some, h3, Option.bind_some]; simp only [h2, Option.bind_some, h4, hg, Option.map_some]
theorem ex_1 {g : D → Option XV} (h : EV f ρ d) (hg : g d = some (.v e)) : EX (x1 g f) ρ e := x1_eq h hg
theorem ef_1 {g : D → Option XV} (h : EV f ρ d) (hg : g d = some (.fr (.l es))) : EF (x1 g f) ρ es := x1_eq h hg
theorem ex_2 {g : D → D → Option XV} (h : EV f1 ρ d1) (h' : EV f2 ρ d2) (hg : g d1 d2 = some (.v e)) : EX (x2 g f1 f2) ρ e := x2_eq h h' hg
theorem tv_b (h : EX f ρ (.bool b)) : TV (tb f) ρ b := by unfold TV tb EX at *; rw [h]; rfl
theorem tv_tt (h : EV f ρ d) (ht : truth d = some b) : TV (tt f) ρ b := by
  obtain ⟨x, h1, h2⟩ := h
  unfold TV tt
  rw [h1, Option.bind_some]
  simp only [h2, Option.bind_some, ht, Option.map_some]
theorem tv_and (h1 : TV t1 ρ b1) (h2 : b1 = true → TV t2 ρ b2) : TV (tAnd t1 t2) ρ (b1 && b2) := by
  unfold TV tAnd at *
  rw [h1, Option.bind_some]
  cases b1 with
  | true => exact h2 rfl
  | false => rfl
theorem tv_not (h1 : TV t1 ρ b1) : TV (tNot t1) ρ (!b1) := by unfold TV tNot at *; rw [h1]; rfl
theorem tv_yes : TV tyes ρ true := rfl
def AV (fs : AEx) (ρ : En) (ds : List D) : Prop := fs ρ = some (ds.map .v, ρ)
theorem av_nil : AV anil ρ [] := rfl
theorem av_cons {fs : AEx} (h : EW f ρ d) (h' : AV fs ρ ds) : AV (acons f fs) ρ (d :: ds) := by
  unfold AV acons EW at *
  rw [h, Option.bind_some]
  simp only [e_hv, if_true, h', Option.map_some]
  rfl
theorem vals_v : ∀ ds : List D, vals (ds.map .v) = some ds
  | [] => rfl
  | d :: ds => by rw [List.map_cons, e_v1, vals_v ds]; rfl
theorem ex_tup {fs : AEx} (h : AV fs ρ ds) (hl : Nat.ble ds.length 1000 = true := by rfl) : EX (xtup fs) ρ (.tuple ds) := by
  unfold EX xtup AV at *
  rw [h, Option.bind_some]
  simp only [vals_v, Option.bind_some, if_pos (Nat.le_of_ble_eq_true hl)]
theorem ef_lst {fs : AEx} (h : AV fs ρ ds) (hl : Nat.ble ds.length 1000 = true := by rfl) : EF (xlst fs) ρ ds := by
  unfold EF xlst AV at *
  rw [h, Option.bind_some]
  simp only [vals_v, Option.bind_some, if_pos (Nat.le_of_ble_eq_true hl)]
theorem toSls_v : ∀ ds : List D, toSls ρ (ds.map .v) = some (ds.map .v)
  | [] => rfl
  | d :: ds => by rw [List.map_cons, ts_1, toSls_v ds]; rfl
theorem slIx_v : ∀ ds : List D, slIx (ds.map .v) = []
  | [] => rfl
  | d :: ds => by rw [List.map_cons, si_v, slIx_v ds]
theorem back_v : ∀ (ds : List D) (ss : En), back ρ (ds.map .v) ss = ρ
  | [], ss => bk_0
  | d :: ds, ss => by rw [List.map_cons, bk_v, back_v ds]
def AC (fs : AEx) (ρ : En) (as : En) : Prop := ∃ xs, fs ρ = some (xs, ρ) ∧ nodupB (slIx xs) = true ∧ toSls ρ xs = some as ∧ ∀ outs, back ρ xs outs = ρ
theorem AV.ac {fs : AEx} (h : AV fs ρ ds) : AC fs ρ (ds.map .v) := ⟨_, h, by rw [slIx_v]; rfl, toSls_v ds, back_v ds⟩
theorem ac_r {fs : AEx} {ns : List Int} (hi : ρ[i]? = some (.r ns)) (h : AV fs ρ ds) : AC (acons (xv i) fs) ρ (.r ns :: ds.map .v) := by
  refine ⟨.sl i :: ds.map .v, ?_, ?_, ?_, fun outs => ?_⟩
  · unfold acons stl xv AV at *
    simp only [hi, Option.map_some, Option.bind_some, e_ss, e_hs, if_true, h]
  · rw [si_s, slIx_v]; rfl
  · rw [ts_1, ts_s, hi, Option.bind_some, toSls_v]; rfl
  · cases outs with
    | nil => rfl
    | cons s ss => rw [bk_s, hi]; exact back_v ds ss
theorem call_eq {fs : AEx} {C : Calls} {x : Str} {as outs : En} {z : XV} (h : AC fs ρ as) (hc : C x as = some (.ok z outs)) (hz : ∀ j, z ≠ .sl j) : xcall C x fs ρ = some (z, ρ) := by
  obtain ⟨xs, h1, h2, h3, h4⟩ := h
  unfold xcall
  rw [h1, Option.bind_some]
  simp only [h2, if_true, h3, Option.bind_some, hc, h4]
  cases z with
  | sl j => exact absurd rfl (hz j)
  | v _ => rfl
  | fr _ => rfl
theorem ex_call {fs : AEx} {C : Calls} {x : Str} {as outs : En} (h : AC fs ρ as) (hc : C x as = some (.ok (.v d) outs)) : EX (xcall C x fs) ρ d := call_eq h hc (fun j z => by cases z)
theorem ef_call {fs : AEx} {C : Calls} {x : Str} {as outs : En} (h : AC fs ρ as) (hc : C x as = some (.ok (.fr (.l ds)) outs)) : EF (xcall C x fs) ρ ds := call_eq h hc (fun j z => by cases z)
end
section
variable {α β γ : Type}
theorem wo_mod {a b : Int} (h : 0 < b) : gMod (.int a) (.int b) = some (.v (.int (a % b))) := by simp [h]
theorem wo_addT {l m : List D} (h : l.length + m.length ≤ 1000000) : gAdd (.tuple l) (.tuple m) = some (.v (.tuple (l ++ m))) := by
  rw [g_addT, if_pos (by rw [sizeLine_eq]; omega)]
theorem wo_addT' {f : α → D} {l m : List α} (h : l.length + m.length ≤ 1000000) : gAdd (eT f l) (eT f m) = some (.v (eT f (l ++ m))) := by
  unfold eT
  rw [wo_addT (by simpa using h), List.map_append]
theorem wo_eq [DecidableEq α] {f : α → D} (h : EqE f) (h2 : DpE f 64) (a b : α) [Decidable (a = b)] : gEq false (f a) (f b) = some (.v (.bool (decide (a = b)))) := by
  rw [g_eq, if_pos (Nat.le_trans (Nat.min_le_left _ _) (h2 a)), h a b]; simp
theorem any_of [DecidableEq α] {f : α → D} (h : EqE f) (l : List α) (a : α) : ((l.map f).any fun z => PyData.eqv z (f a)) = decide (a ∈ l) := by
  rw [Bool.eq_iff_iff, decide_eq_true_eq]
  exact any_enc fun p q => by rw [h p q, decide_eq_true_eq]
theorem wo_inT [DecidableEq α] {f : α → D} (h : EqE f) (h2 : DpE f 64) (a : α) (l : List α) [Decidable (a ∈ l)] : gIn false (f a) (eT f l) = some (.v (.bool (decide (a ∈ l)))) := by
  unfold eT; rw [g_inT, if_pos (h2 a), any_of h]; simp
theorem wo_niT [DecidableEq α] {f : α → D} (h : EqE f) (h2 : DpE f 64) (a : α) (l : List α) [Decidable (a ∈ l)] : gIn true (f a) (eT f l) = some (.v (.bool (!decide (a ∈ l)))) := by
  unfold eT; rw [g_inT, if_pos (h2 a), any_of h]; simp
def ltE (f : α → D) (a b : α) : Bool := PySem.W.dataLt (f a) (f b)
theorem wo_sortL {f : α → D} (h : SrE f) (l : List α) : gSort (eL f l) = some (.fr (.l ((srtBy f l).map f))) := by
  unfold eL; rw [g_srtL, if_pos (h l), srt_map]
theorem wo_lenT {f : α → D} (l : List α) : gLen (eT f l) = some (.v (.int (l.length : Int))) := by unfold eT; rw [g_lenT, List.length_map]
theorem wo_lenL {f : α → D} (l : List α) : gLen (eL f l) = some (.v (.int (l.length : Int))) := by unfold eL; rw [g_lenL, List.length_map]
def gtD [Inhabited α] (l : List α) (i : Int) : α := (atI l i).getD default
def InR (l : List α) (i : Int) : Prop := -(l.length : Int) ≤ i ∧ i < l.length
theorem atI_some [Inhabited α] {l : List α} {i : Int} (h : InR l i) : atI l i = some (gtD l i) := by
  unfold gtD
  have : ∃ x, atI l i = some x := by
    obtain ⟨h1, h2⟩ := h
    unfold atI ixN
    by_cases h0 : 0 ≤ i
    · rw [if_pos h0, if_pos (by omega)]
      refine ⟨l[i.toNat]'(by omega), ?_⟩
      rw [Option.bind_some, List.getElem?_eq_getElem]
    · rw [if_neg h0]
      split
      · refine ⟨l[(i + (l.length : Int)).toNat]'(by omega), ?_⟩
        rw [Option.bind_some]
        first
          | (rw [List.getElem?_eq_getElem]; done)
          | (rw [List.getElem?_eq_getElem (by omega)]; congr 1; congr 1; omega)
      · omega
  obtain ⟨x, e⟩ := this
  rw [e]; rfl
theorem atI_mapD (f : α → β) (l : List α) (i : Int) : atI (l.map f) i = (atI l i).map f := by
  unfold atI
  rw [List.length_map]
  cases ixN l.length i with
  | none => rfl
  | some k => rw [Option.bind_some, Option.bind_some, List.getElem?_map]
theorem wo_ixT [Inhabited α] {f : α → D} {l : List α} {i : Int} (h : InR l i) : gIx (eT f l) (.int i) = some (.v (f (gtD l i))) := by
  unfold eT; rw [g_ixT, atI_mapD, atI_some h]; rfl
theorem wo_ixL [Inhabited α] {f : α → D} {l : List α} {i : Int} (h : InR l i) : gIx (eL f l) (.int i) = some (.v (f (gtD l i))) := by
  unfold eL; rw [g_ixL, atI_mapD, atI_some h]; rfl
theorem boolsOf_map : ∀ l : List Bool, boolsOf (l.map .bool) = some l
  | [] => rfl
  | x :: l => by rw [List.map_cons]; unfold boolsOf; rw [boolsOf_map l]; rfl
theorem wo_all (l : List Bool) : gAll (eL .bool l) = some (.v (.bool (l.all id))) := by unfold eL gAll; simp only [boolsOf_map, Option.map_some]
theorem wo_allc {l : List α} {g : α → Bool} : gAll (eL .bool (l.map g)) = some (.v (.bool (l.all g))) := by rw [wo_all, List.all_map]; rfl
theorem wo_tupL {f : α → D} (l : List α) : gTuple (eL f l) = some (.v (eT f l)) := rfl
end
section
variable {ρ : En} {f f1 f2 f3 : Ex} {d e : D} {ds : List D} {i : Nat}
theorem ex_lenS {ns : List Int} (hi : ρ[i]? = some (.r ns)) : EX (xlenS i) ρ (.int (ns.length : Int)) := by unfold EX xlenS; rw [hi]
theorem ex_sc {ns : List Int} {a : Int} (hi : ρ[i]? = some (.r ns)) (h : EX f ρ (.int a)) (hr : InR ns a) : EX (xsc i f) ρ (.int (gtD ns a)) := by
  unfold EX xsc at *
  simp only [hi, h, Option.bind_some, atI_some hr, Option.map_some]
def IT (sr : IEx) (ρ : En) (ds : List D) (lk : Option Nat) : Prop := sr ρ = some (ds, lk, ρ)
theorem it_rng1 {a : Int} (h : EX f ρ (.int a)) (hb : a.natAbs ≤ 1000000) : IT (irng1 f) ρ ((rngI 0 a.toNat).map .int) none := by
  unfold EX at h; unfold IT irng1
  rw [h, Option.bind_some]
  simp only [if_pos hb, ← rngL_map]
theorem it_t {α : Type} {enc : α → D} {l : List α} (h : EX f ρ (eT enc l)) : IT (ival f) ρ (l.map enc) none := by unfold EX eT at h; unfold IT ival; rw [h]; rfl
theorem it_l {α : Type} {enc : α → D} {l : List α} (h : EX f ρ (eL enc l)) : IT (ival f) ρ (l.map enc) none := by unfold EX eL at h; unfold IT ival; rw [h]; rfl
theorem it_f (h : EF f ρ ds) : IT (ival f) ρ ds none := by unfold EF at h; unfold IT ival; rw [h]; rfl
theorem tg_v {s : Sl} (h : ρ[i]? = some s) (ok : okSet s = true) : setV i d ρ = some (ρ.set i (.v d)) := by
  rw [e_setV, h]; simp [ok]
theorem tg_nil : gsNil [] ρ = some ρ := rfl
theorem tg_cons {tg : Tgt} {gs : Tgts} {ρ1 ρ2 : En} (h : tg d ρ = some ρ1) (h' : gs ds ρ1 = some ρ2) : gsCons tg gs (d :: ds) ρ = some ρ2 := by rw [e_gsC, h]; exact h'
theorem tg_tup {n : Nat} {gs : Tgts} {ρ1 : En} (h : gs ds ρ = some ρ1) (hl : ds.length = n := by rfl) : setT n gs (.tuple ds) ρ = some ρ1 := by rw [e_setT, if_pos hl]; exact h
end
section
variable {own own1 : List Nat} {tg tg1 : Tgt} {ts ts1 : Tst} {el : Ex} {sr sr1 : IEx} {lk : Option Nat} {ρ ρ2 : En} {α β γ : Type} {enc : α → D} {enc1 : β → D} {enc2 : γ → D} {l : List α}
theorem step_of {a : D} {P : Bool} {g : D} (h : ∃ ρb, tg a ρ2 = some ρb ∧ TV ts ρb P ∧ (P = true → EW el ρb g) ∧ wipeE ρb own = ρ2) : lcStep own tg ts el a ρ2 = some (if P = true then some g else none, ρ2) := by
  obtain ⟨ρb, h1, h2, h3, h4⟩ := h
  unfold lcStep
  rw [h1, Option.bind_some, h2, Option.bind_some]
  cases P with
  | true =>
    simp only [if_true]
    rw [show stl el ρb = _ from h3 rfl, Option.bind_some]
    simp only [h4]
  | false => simp [h4]
theorem ef_lc (P : α → Bool) (g : α → γ) (hs : IT sr ρ (l.map enc) lk) (hk : lkOut lk own = true) (h1 : wipeE (lockE lk ρ) own = ρ2) (he : unlockE lk ρ (restE (lockE lk ρ) own ρ2) = ρ)
    (h : ∀ a ∈ l, ∃ ρb, tg (enc a) ρ2 = some ρb ∧ TV ts ρb (P a) ∧ (P a = true → EW el ρb (enc2 (g a))) ∧ wipeE ρb own = ρ2) : EF (xlc own sr tg ts el) ρ (((l.filter P).map g).map enc2) := by
  subst h1
  rw [List.map_map]
  exact xlc_flt enc l P (fun a => enc2 (g a)) hs hk (fun a ha => step_of (h a ha)) he
theorem ef_lcM (g : α → γ) (hs : IT sr ρ (l.map enc) lk) (hk : lkOut lk own = true) (h1 : wipeE (lockE lk ρ) own = ρ2) (he : unlockE lk ρ (restE (lockE lk ρ) own ρ2) = ρ)
    (h : ∀ a ∈ l, ∃ ρb, tg (enc a) ρ2 = some ρb ∧ EW el ρb (enc2 (g a)) ∧ wipeE ρb own = ρ2) : EF (xlc own sr tg tyes el) ρ ((l.map g).map enc2) := by
  have := ef_lc (fun _ => true) g (enc2 := enc2) (ts := tyes) hs hk h1 he fun a ha => by
    obtain ⟨ρb, h1, h2, h3⟩ := h a ha
    exact ⟨ρb, h1, tv_yes, fun _ => h2, h3⟩
  rwa [List.filter_eq_self.mpr fun _ _ => rfl] at this
theorem ef_lcF (P : α → Bool) (hs : IT sr ρ (l.map enc) lk) (hk : lkOut lk own = true) (h1 : wipeE (lockE lk ρ) own = ρ2) (he : unlockE lk ρ (restE (lockE lk ρ) own ρ2) = ρ)
    (h : ∀ a ∈ l, ∃ ρb, tg (enc a) ρ2 = some ρb ∧ TV ts ρb (P a) ∧ (P a = true → EW el ρb (enc a)) ∧ wipeE ρb own = ρ2) : EF (xlc own sr tg ts el) ρ ((l.filter P).map enc) := by
  have := ef_lc P id (enc2 := enc) hs hk h1 he h
  rwa [List.map_id] at this
end
def SJ (g : SEx) (ρ : En) (Q : Fl → En → Prop) : Prop := ∃ fl ρ', g ρ = some (fl, ρ') ∧ Q fl ρ'
section
variable {ρ ρ1 : En} {Q : Fl → En → Prop} {g g1 g2 A B : SEx} {f : Ex} {d e : D} {ds : List D} {i j : Nat} {t : Tst} {b : Bool}
theorem sj_tail (h : SJ (sSeq g sNil) ρ Q) : SJ g ρ Q := by
  obtain ⟨fl, ρ', h1, h2⟩ := h
  refine ⟨fl, ρ', ?_, h2⟩
  unfold sSeq at h1
  rw [Option.bind_eq_some_iff] at h1
  obtain ⟨⟨x, ρ2⟩, e1, e2⟩ := h1
  rw [e1]
  cases x with
  | nx => exact e2
  | _ => exact e2
theorem sj_assoc (h : SJ (sSeq A (sSeq B g)) ρ Q) : SJ (sSeq (sSeq A B) g) ρ Q := by
  obtain ⟨fl, ρ', h1, h2⟩ := h
  refine ⟨fl, ρ', ?_, h2⟩
  unfold sSeq at h1 ⊢
  rw [← h1]
  cases A ρ with
  | none => rfl
  | some p =>
    obtain ⟨x, ρ2⟩ := p
    cases x <;> rfl
theorem sj_nil (h : Q .nx ρ) : SJ sNil ρ Q := ⟨_, _, rfl, h⟩
theorem sj_nils (h : SJ g ρ Q) : SJ (sSeq sNil g) ρ Q := by
  obtain ⟨fl, ρ', h1, h2⟩ := h
  exact ⟨fl, ρ', h1, h2⟩
theorem sj_seq (h : g1 ρ = some (.nx, ρ1)) (h2 : SJ g2 ρ1 Q) : SJ (sSeq g1 g2) ρ Q := by
  obtain ⟨fl, ρ', q1, q2⟩ := h2
  refine ⟨fl, ρ', ?_, q2⟩
  unfold sSeq
  rw [h]; exact q1
theorem sj_if {X : Type} (P : X → Fl → En → Prop) (x y : X) (ht : TV t ρ b) (h1 : b = true → SJ (sSeq A g) ρ (P x)) (h2 : b = false → SJ (sSeq B g) ρ (P y)) : SJ (sSeq (sIf t A B) g) ρ (P (if b = true then x else y)) := by
  cases b with
  | true =>
    obtain ⟨fl, ρ', q1, q2⟩ := h1 rfl
    refine ⟨fl, ρ', ?_, q2⟩
    unfold sSeq sIf at *
    rw [show t ρ = _ from ht]; exact q1
  | false =>
    obtain ⟨fl, ρ', q1, q2⟩ := h2 rfl
    refine ⟨fl, ρ', ?_, by simpa using q2⟩
    unfold sSeq sIf at *
    rw [show t ρ = _ from ht]; exact q1
theorem sj_retX (h : EX f ρ d) (q : Q (.rt (.v d)) ρ) : SJ (sSeq (sRet f) g) ρ Q := by
  refine ⟨.rt (.v d), ρ, ?_, q⟩
  unfold sSeq sRet
  rw [show f ρ = _ from h]; rfl
theorem sj_retF (h : EF f ρ ds) (q : Q (.rt (.fr (.l ds))) ρ) : SJ (sSeq (sRet f) g) ρ Q := by
  refine ⟨.rt (.fr (.l ds)), ρ, ?_, q⟩
  unfold sSeq sRet
  rw [show f ρ = _ from h]; rfl
theorem set_eq {s : Sl} (h : EW f ρ d) (hi : ρ[i]? = some s) (ok : okSet s = true) : sSet i f ρ = some (.nx, ρ.set i (.v d)) := by
  unfold sSet
  rw [show R.stl f ρ = _ from h, Option.bind_some]
  simp only [tg_v hi ok, Option.map_some]
theorem setO_ok' {s : Sl} (hi : ρ[i]? = some s) (ok : okSetO s = true) : setO i (.l ds) ρ = some (ρ.set i (.o false (.l ds))) := by
  rw [e_setO, hi]; simp [ok]
theorem setO_eq {s : Sl} (h : EF f ρ ds) (hi : ρ[i]? = some s) (ok : okSetO s = true) : sSetO i f ρ = some (.nx, ρ.set i (.o false (.l ds))) := by
  unfold sSetO
  rw [show f ρ = _ from h, Option.bind_some]
  simp only [setO_ok' hi ok, Option.map_some]
theorem exp_eq (h : f ρ = some (.v d, ρ1)) : sExp f ρ = some (.nx, ρ1) := by unfold sExp; rw [h]; rfl
theorem app_eq {α : Type} {enc : α → D} {l : List α} {x : α} (h0 : ρ[i]? = some (.o b (.l (l.map enc)))) (h : EW f ρ (enc x)) (hl : l.length < 1000000) : sExp (xapp i f) ρ = some (.nx, ρ.set i (.o b (.l ((l ++ [x]).map enc)))) := by
  refine exp_eq (d := .none) ?_
  unfold xapp
  simp only [h0, show R.stl f ρ = _ from h, Option.bind_some]
  rw [if_pos (by rw [List.length_map, sizeLine_eq]; omega), List.map_append]; rfl
def putD {α : Type} (l : List α) (a : Int) (x : α) : List α := l.set (if 0 ≤ a then a.toNat else (a + l.length).toNat) x
inductive Stp (σ β : Type) where
  | nx (s : σ) | bk (s : σ) | rt (b : β)
def LQ {σ β : Type} (I : σ → En → Prop) (R : β → Fl → En → Prop) : Stp σ β → Fl → En → Prop
  | .nx s => fun fl ρ => (fl = .nx ∨ fl = .ct) ∧ I s ρ
  | .bk s => fun fl ρ => fl = .bk ∧ I s ρ
  | .rt b => fun fl ρ => (∃ x, fl = .rt x) ∧ R b fl ρ
def forT {α σ β : Type} (step : σ → α → Stp σ β) : σ → List α → Stp σ β
  | s, [] => .nx s
  | s, a :: l => match step s a with
    | .nx s' => forT step s' l
    | .bk s' => .bk s'
    | .rt b => .rt b
theorem forT_app {α σ β : Type} {step : σ → α → Stp σ β} : ∀ (l m : List α) (s s' : σ), forT step s l = .nx s' → forT step s (l ++ m) = forT step s' m
  | [], m, s, s', h => by cases h; rfl
  | a :: l, m, s, s', h => by
    unfold forT at h
    rw [List.cons_append]
    conv => lhs; unfold forT
    cases q : step s a with
    | nx s2 => rw [q] at h; exact forT_app l m s2 s' h
    | bk s2 => rw [q] at h; cases h
    | rt b => rw [q] at h; cases h
def fgo (tg : Tgt) (body : SEx) (ds : List D) : Fl → En → Option (Fl × En)
  | .nx, ρ => forGo tg body ds ρ
  | .ct, ρ => forGo tg body ds ρ
  | .bk, ρ => some (.nx, ρ)
  | .rt x, ρ => some (.rt x, ρ)
  | .ex n, ρ => some (.ex n, ρ)
theorem for_go {α σ β : Type} {enc : α → D} {tg : Tgt} {body : SEx} (I : σ → En → Prop) (R : β → Fl → En → Prop) (step : σ → α → Stp σ β) (s0 : σ) : ∀ (post pre : List α) (s : σ) (ρ : En), forT step s0 pre = .nx s → I s ρ →
    (∀ p1 a p2 s ρ1, p1 ++ a :: p2 = pre ++ post → forT step s0 p1 = .nx s → I s ρ1 → ∃ ρ2, tg (enc a) ρ1 = some ρ2 ∧ SJ body ρ2 (LQ I R (step s a))) →
    ∃ fl ρ', forGo tg body (post.map enc) ρ = some (fl, ρ') ∧ match forT step s0 (pre ++ post) with
      | .nx s' => fl = .nx ∧ I s' ρ'
      | .bk s' => fl = .nx ∧ I s' ρ'
      | .rt b => (∃ x, fl = .rt x) ∧ R b fl ρ'
  | [], pre, s, ρ, h0, hI, _ => ⟨.nx, ρ, rfl, by rw [List.append_nil, h0]; exact ⟨rfl, hI⟩⟩
  | a :: post, pre, s, ρ, h0, hI, hb => by
    obtain ⟨ρ2, e1, fl, ρ3, e2, e3⟩ := hb pre a post s ρ rfl h0 hI
    have unf : forGo tg body ((a :: post).map enc) ρ = fgo tg body (post.map enc) fl ρ3 := by
      rw [List.map_cons]
      conv => lhs; unfold forGo
      rw [e1, Option.bind_some, e2, Option.bind_some]
      cases fl <;> rfl
    rw [unf]
    cases q : step s a with
    | nx s' =>
      rw [q] at e3
      obtain ⟨e3, e4⟩ := e3
      have hp : forT step s0 (pre ++ [a]) = .nx s' := by
        rw [forT_app _ _ _ _ h0]; unfold forT; rw [q]; rfl
      have ih := for_go (tg := tg) (body := body) (enc := enc) I R step s0 post (pre ++ [a]) s' ρ3 hp e4 fun p1 a' p2 s ρ1 z => hb p1 a' p2 s ρ1 (by rw [z]; simp)
      rw [List.append_assoc] at ih
      rcases e3 with rfl | rfl
      · exact ih
      · exact ih
    | bk s' =>
      rw [q] at e3
      obtain ⟨rfl, e4⟩ := e3
      refine ⟨.nx, ρ3, rfl, ?_⟩
      rw [forT_app _ _ _ _ h0]
      unfold forT
      rw [q]; exact ⟨rfl, e4⟩
    | rt b =>
      rw [q] at e3
      obtain ⟨⟨x, rfl⟩, e4⟩ := e3
      refine ⟨.rt x, ρ3, rfl, ?_⟩
      rw [forT_app _ _ _ _ h0]
      unfold forT
      rw [q]; exact ⟨⟨x, rfl⟩, e4⟩
def endT {σ β X : Type} (r : Stp σ β) (rest : σ → X) (ret : β → X) : X := match r with
  | .nx s => rest s
  | .bk s => rest s
  | .rt b => ret b
def endS {β X : Type} (r : Option β) (rest : X) (ret : β → X) : X := match r with
  | none => rest
  | some b => ret b
@[simp] theorem endT_nx {σ β X : Type} (s : σ) (rest : σ → X) (ret : β → X) : endT (.nx s) rest ret = rest s := (rfl)
@[simp] theorem endT_bk {σ β X : Type} (s : σ) (rest : σ → X) (ret : β → X) : endT (.bk s) rest ret = rest s := (rfl)
@[simp] theorem endT_rt {σ β X : Type} (b : β) (rest : σ → X) (ret : β → X) : endT (.rt b) rest ret = ret b := (rfl)
@[simp] theorem endS_n {β X : Type} (rest : X) (ret : β → X) : endS none rest ret = rest := (rfl)
@[simp] theorem endS_s {β X : Type} (b : β) (rest : X) (ret : β → X) : endS (some b) rest ret = ret b := (rfl)
theorem sj_forT {α σ β X : Type} {enc : α → D} {l : List α} {tg : Tgt} {body : SEx} {sr : IEx} {lk : Option Nat} (P : X → Fl → En → Prop) (I : σ → En → Prop) (R : β → Fl → En → Prop) (step : σ → α → Stp σ β) (s0 : σ) (rest : σ → X) (ret : β → X)
    (hs : IT sr ρ (l.map enc) lk) (h0 : I s0 (lockE lk ρ))
    (hb : ∀ pre a post s ρ1, pre ++ a :: post = l → forT step s0 pre = .nx s → I s ρ1 → ∃ ρ2, tg (enc a) ρ1 = some ρ2 ∧ SJ body ρ2 (LQ I R (step s a)))
    (hr : ∀ s ρ1, (forT step s0 l = .nx s ∨ forT step s0 l = .bk s) → I s ρ1 → SJ g (unlockE lk ρ ρ1) (P (rest s)))
    (hR : ∀ b fl ρ', (∃ x, fl = .rt x) → R b fl ρ' → P (ret b) fl (unlockE lk ρ ρ')) :
    SJ (sSeq (sFor sr tg body) g) ρ (P (endT (forT step s0 l) rest ret)) := by
  obtain ⟨fl, ρ', e1, e2⟩ := for_go (tg := tg) (body := body) (enc := enc) I R step s0 l [] s0 (lockE lk ρ) rfl h0 fun p1 a p2 s ρ1 z => hb p1 a p2 s ρ1 z
  have e0 : sFor sr tg body ρ = some (fl, unlockE lk ρ ρ') := by
    unfold sFor
    rw [show sr ρ = _ from hs, Option.bind_some]
    simp only [e1, Option.map_some]
  rw [List.nil_append] at e2
  cases q : forT step s0 l with
  | nx s =>
    rw [q] at e2
    obtain ⟨rfl, e2⟩ := e2
    exact sj_seq e0 (hr s ρ' (.inl q) e2)
  | bk s =>
    rw [q] at e2
    obtain ⟨rfl, e2⟩ := e2
    exact sj_seq e0 (hr s ρ' (.inr q) e2)
  | rt b =>
    rw [q] at e2
    obtain ⟨⟨x, rfl⟩, e2⟩ := e2
    refine ⟨.rt x, unlockE lk ρ ρ', ?_, hR b _ ρ' ⟨x, rfl⟩ e2⟩
    unfold sSeq
    rw [e0]; rfl
theorem forT_fold {α σ β : Type} (step : σ → α → σ) : ∀ (l : List α) (s : σ), forT (fun s a => (Stp.nx (step s a) : Stp σ β)) s l = .nx (l.foldl step s)
  | [], s => rfl
  | a :: l, s => by unfold forT; exact forT_fold step l (step s a)
theorem sj_forF {α σ : Type} {enc : α → D} {l : List α} {tg : Tgt} {body : SEx} {sr : IEx} {lk : Option Nat} (I : σ → En → Prop) (step : σ → α → σ) (s0 : σ)
    (hs : IT sr ρ (l.map enc) lk) (h0 : I s0 (lockE lk ρ))
    (hb : ∀ pre a post s ρ1, pre ++ a :: post = l → s = pre.foldl step s0 → I s ρ1 → ∃ ρ2, tg (enc a) ρ1 = some ρ2 ∧ SJ body ρ2 (fun fl ρ3 => (fl = .nx ∨ fl = .ct) ∧ I (step s a) ρ3))
    (hr : ∀ ρ1, I (l.foldl step s0) ρ1 → SJ g (unlockE lk ρ ρ1) Q) : SJ (sSeq (sFor sr tg body) g) ρ Q := by
  have := sj_forT (g := g) (tg := tg) (body := body) (β := Unit) (X := Unit) (fun _ => Q) I (fun _ _ _ => False) (fun s a => .nx (step s a)) s0 (fun _ => ()) (fun _ => ()) hs h0
    (fun pre a post s ρ1 z hp hI => by
      rw [forT_fold] at hp
      cases hp
      exact hb pre a post _ ρ1 z rfl hI)
    (fun s ρ1 hp hI => by
      rw [forT_fold] at hp
      rcases hp with hp | hp
      · cases hp; exact hr ρ1 hI
      · cases hp)
    (fun _ _ _ _ z => z.elim)
  exact this
theorem forT_find {α β : Type} (step : α → Option β) : ∀ (l : List α), forT (fun (_ : Unit) a => match step a with | some b => (Stp.rt b : Stp Unit β) | none => .nx ()) () l = match l.findSome? step with | some b => .rt b | none => .nx ()
  | [] => rfl
  | a :: l => by
    unfold forT
    rw [List.findSome?_cons]
    cases h : step a with
    | some b => rfl
    | none => exact forT_find step l
theorem findSome?_split {α β : Type} {step : α → Option β} {l pre post : List α} {a : α} (h : pre ++ a :: post = l) : forT (fun (_ : Unit) a => match step a with | some b => (Stp.rt b : Stp Unit β) | none => .nx ()) () pre = .nx () → pre.findSome? step = none := fun q => by
  rw [forT_find] at q
  cases h : pre.findSome? step with
  | none => rfl
  | some b => rw [h] at q; cases q
def SQ {β : Type} (I : En → Prop) (R : β → Fl → En → Prop) : Option β → Fl → En → Prop
  | none => fun fl ρ => (fl = .nx ∨ fl = .ct) ∧ I ρ
  | some b => fun fl ρ => (∃ x, fl = .rt x) ∧ R b fl ρ
theorem sj_forS {α β X : Type} {enc : α → D} {l : List α} {tg : Tgt} {body : SEx} {sr : IEx} {lk : Option Nat} (P : X → Fl → En → Prop) (I : En → Prop) (R : β → Fl → En → Prop) (step : α → Option β) (rest : X) (ret : β → X)
    (hs : IT sr ρ (l.map enc) lk) (h0 : I (lockE lk ρ))
    (hb : ∀ pre a post ρ1, pre ++ a :: post = l → pre.findSome? step = none → I ρ1 → ∃ ρ2, tg (enc a) ρ1 = some ρ2 ∧ SJ body ρ2 (SQ I R (step a)))
    (hr : ∀ ρ1, l.findSome? step = none → I ρ1 → SJ g (unlockE lk ρ ρ1) (P rest))
    (hR : ∀ b fl ρ', (∃ x, fl = .rt x) → R b fl ρ' → P (ret b) fl (unlockE lk ρ ρ')) :
    SJ (sSeq (sFor sr tg body) g) ρ (P (endS (l.findSome? step) rest ret)) := by
  have := sj_forT (g := g) (tg := tg) (body := body) P (fun _ => I) R (fun (_ : Unit) a => match step a with | some b => (Stp.rt b : Stp Unit β) | none => .nx ()) () (fun _ => rest) ret hs h0
    (fun pre a post s ρ1 z hp hI => by
      obtain ⟨ρ2, e1, fl, ρ3, e2, e3⟩ := hb pre a post ρ1 z (findSome?_split z hp) hI
      refine ⟨ρ2, e1, fl, ρ3, e2, ?_⟩
      cases q : step a with
      | none => rw [q] at e3; exact e3
      | some b => rw [q] at e3; exact e3)
    (fun s ρ1 hp hI => by
      refine hr ρ1 ?_ hI
      rw [forT_find] at hp
      cases q : l.findSome? step with
      | none => rfl
      | some b => rw [q] at hp; rcases hp with hp | hp <;> cases hp)
    hR
  rw [forT_find] at this
  cases q : l.findSome? step with
  | none => rw [q] at this; exact this
  | some b => rw [q] at this; exact this
class HasF (T : Tab) (x : String) (d : FnD) : Prop where
  e : T.lookup (Str.ofString x) = some d
def vrB : Sl → Bool
  | .v _ => true
  | .r _ => true
  | _ => false
theorem outs_vr : ∀ (args ρ : En), args.all vrB = true → outsOf args ρ = args
  | [], ρ, _ => by cases ρ <;> rfl
  | a :: as, ρ, h => by
    rw [List.all_cons, Bool.and_eq_true] at h
    have ih := fun ρ => outs_vr as ρ h.2
    cases a with
    | v d => cases ρ with
      | nil => show Sl.v d :: outsOf as [] = _; rw [ih]
      | cons s ρ => show Sl.v d :: outsOf as ρ = _; rw [ih]
    | r d => cases ρ with
      | nil => show Sl.r d :: outsOf as [] = _; rw [ih]
      | cons s ρ => show Sl.r d :: outsOf as ρ = _; rw [ih]
    | un => cases h.1
    | o _ _ => cases h.1
    | k _ _ => cases h.1
theorem okArg_vr : ∀ (args : En), args.all vrB = true → args.all okArg = true
  | [], _ => rfl
  | a :: as, h => by
    rw [List.all_cons, Bool.and_eq_true] at h ⊢
    refine ⟨?_, okArg_vr as h.2⟩
    cases a <;> first | rfl | (cases h.1; done)
def RQ {β : Type} (rx : β → XV) (b : β) (fl : Fl) (_ : En) : Prop := fl = .rt (rx b) ∨ (fl = .nx ∧ rx b = .v .none)
theorem fn_run {fd : FnD} {C : Calls} {args : En} {β : Type} {rx : β → XV} {b : β} (hl : args.length = fd.par) (ha : args.all vrB = true) (h : SJ (fd.body C) (args ++ List.replicate (fd.slots - fd.par) .un) (RQ rx b)) : runFn fd C args = some (.ok (rx b) args) := by
  obtain ⟨fl, ρ', e1, e2⟩ := h
  rw [runFn_eq hl (okArg_vr args ha), e1, Option.bind_some]
  rcases e2 with rfl | ⟨rfl, e2⟩
  · rw [end_rt, outs_vr args _ ha]
  · rw [end_nx, outs_vr args _ ha, e2]
def rxV {α : Type} (enc : α → D) (a : α) : XV := .v (enc a)
def rxF {α : Type} (enc : α → D) (l : List α) : XV := .fr (.l (l.map enc))
end
theorem okJ {s : Sl} (h : okSetO s = true) : okSet s = true := by
  cases s with
  | o b c => cases b <;> first | rfl | cases h
  | un => rfl
  | v _ => rfl
  | k _ _ => cases h
  | r _ => cases h
instance : Inhabited D := ⟨.none⟩
def FQ {σ : Type} (I : σ → En → Prop) (s : σ) (fl : Fl) (ρ : En) : Prop := (fl = .nx ∨ fl = .ct) ∧ I s ρ
def dS : D → List D
  | .tuple ds => ds
  | .list ds => ds
  | _ => []
section
variable {ρ : En} {f f1 f2 : Ex} {d e : D} {ds : List D} {i : Nat} {α β γ : Type}
def minT {α : Type} [Inhabited α] (f : α → D) : List α → α
  | [] => default
  | x :: xs => xs.foldl (fun a y => if ltE f y a = true then y else a) x
def maxT {α : Type} [Inhabited α] (f : α → D) : List α → α
  | [] => default
  | x :: xs => xs.foldl (fun a y => if ltE f a y = true then y else a) x
theorem minD_map {α : Type} (f : α → D) : ∀ (xs : List α) (x : α), PySem.W.minD (f x) (xs.map f) = f (xs.foldl (fun a y => if ltE f y a = true then y else a) x)
  | [], x => rfl
  | y :: xs, x => by
    have ih := fun z => minD_map f xs z
    unfold PySem.W.minD at ih ⊢
    rw [List.map_cons, List.foldl_cons, List.foldl_cons]
    by_cases h : ltE f y x = true
    · rw [if_pos h, ← ih y]
      congr 1
      exact if_pos h
    · rw [if_neg h, ← ih x]
      congr 1
      exact if_neg h
theorem best_of {α : Type} {f : α → D} (h1 : AlE f) (h2 : NnE f) (h3 : DpE f 64) (l : List α) : bestB (l.map f) = true := by
  unfold bestB alikeB
  simp only [Bool.and_eq_true, List.all_eq_true, List.mem_map, decide_eq_true_eq, Bool.not_eq_true']
  refine ⟨⟨?_, ?_⟩, dpAll_map h3 l⟩
  · rintro _ ⟨a, _, rfl⟩ _ ⟨b, _, rfl⟩; exact h1 a b
  · rintro _ ⟨a, _, rfl⟩; exact h2 a
theorem wo_minL {α : Type} [Inhabited α] {f : α → D} (h1 : AlE f) (h2 : NnE f) (h3 : DpE f 64) {l : List α} (h : l ≠ []) : gBst PySem.W.minD (eL f l) = some (.v (f (minT f l))) := by
  cases l with
  | nil => exact absurd rfl h
  | cons x xs =>
    have := best_of h1 h2 h3 (x :: xs)
    unfold eL gBst
    rw [List.map_cons] at this ⊢
    simp only [this, if_true, minD_map]; rfl
variable [Inhabited α] {f' : α → D} {l : List α} {gs : Tgts} {ρ1 : En}
def EXe (f : Ex) (ρ : En) (d : D) (ρ1 : En) : Prop := f ρ = some (.v d, ρ1)
theorem ep_mv {enc : α → D} {l : List α} (h0 : ρ[i]? = some (.o false (.l (l.map enc)))) : EXe (xmv i) ρ (eL enc l) (ρ.set i .un) := by
  unfold EXe xmv
  simp only [h0]; rfl
theorem set_eqE {s : Sl} {j : Nat} (h : EXe f ρ d ρ1) (hi : ρ1[j]? = some s) (ok : okSet s = true) : sSet j f ρ = some (.nx, ρ1.set j (.v d)) := by
  unfold sSet stl
  rw [show f ρ = _ from h, Option.map_some, Option.bind_some]
  simp only [e_sv, tg_v hi ok, Option.map_some]
end
def bOf : Option XV → Bool
  | some (.v (.bool b)) => b
  | _ => false
def dLt (a b : D) : Bool := bOf (gLt a b)
def dLe (a b : D) : Bool := bOf (gLe a b)
def dGt (a b : D) : Bool := bOf (gGt a b)
def dGe (a b : D) : Bool := bOf (gGe a b)
@[simp] theorem dLt_int (a b : Int) : dLt (.int a) (.int b) = decide (a < b) := (rfl)
@[simp] theorem dLe_int (a b : Int) : dLe (.int a) (.int b) = decide (a ≤ b) := (rfl)
@[simp] theorem dGt_int (a b : Int) : dGt (.int a) (.int b) = decide (b < a) := (rfl)
@[simp] theorem dGe_int (a b : Int) : dGe (.int a) (.int b) = decide (b ≤ a) := (rfl)
def dT {α : Type} (f : D → α) (d : D) : List α := (dS d).map f
def d2 {α β : Type} (f : D → α) (g : D → β) (d : D) : α × β := (f (gtD (dS d) 0), g (gtD (dS d) 1))
def d3 {α β γ : Type} (f : D → α) (g : D → β) (h : D → γ) (d : D) : α × β × γ := (f (gtD (dS d) 0), g (gtD (dS d) 1), h (gtD (dS d) 2))
theorem findIdx_map {α : Type} [DecidableEq α] [BEq α] [LawfulBEq α] {f : α → D} (h : EqE f) (x : α) : ∀ {l : List α}, x ∈ l → ((l.map f).findIdx? fun z => PyData.eqv z (f x)) = some (l.idxOf x)
  | [], hx => by cases hx
  | a :: l, hx => by
    rw [List.map_cons, List.findIdx?_cons, h]
    by_cases e : a = x
    · subst e; simp
    · have hx' : x ∈ l := by
        rcases List.mem_cons.mp hx with z | z
        · exact absurd z.symm e
        · exact z
      have ih := findIdx_map h x hx'
      rw [decide_eq_false e]
      simp only [Bool.false_eq_true, if_false, ih, Option.map_some]
      have e2 : (a == x) = false := by simp [e]
      rw [List.idxOf_cons, e2]; rfl
theorem ex_idx {α : Type} [DecidableEq α] [BEq α] [LawfulBEq α] {f : α → D} {f1 f2 : Ex} {ρ : En} {l : List α} {x : α} (he : EqE f) (hd : DpE f 60) (h1 : EV f1 ρ (eL f l)) (h2 : EV f2 ρ (f x)) (hm : x ∈ l) : EX (xidx f1 f2) ρ (.int (l.idxOf x : Nat)) := by
  obtain ⟨y1, p1, p2⟩ := h1.stl
  obtain ⟨y2, p3, p4⟩ := h2.stl
  unfold EX xidx
  rw [p1, Option.bind_some]
  simp only [p2, Option.bind_some, p3, p4, if_true]
  have d1 : (eL f l).depth ≤ 64 := by
    have := dp_L hd l; omega
  have d2 : (f x).depth ≤ 64 := by have := hd x; omega
  show (gIndex (.list (l.map f)) (f x)).map (fun z => (z, ρ)) = _
  unfold gIndex
  have d1' : PyData.depth (.list (l.map f)) ≤ 64 := d1
  simp only [d1', d2, and_self, if_true, findIdx_map he x hm]
  rfl
instance {σ β : Type} [Inhabited σ] : Inhabited (Stp σ β) := ⟨.nx default⟩
theorem xcall_eq {C C' : Calls} {x : Str} (h : C x = C' x) (fs : AEx) : xcall C x fs = xcall C' x fs := by unfold xcall; rw [h]
theorem runFn_congr {d : FnD} {C C' : Calls} (h : d.body C = d.body C') (args : En) : runFn d C args = runFn d C' args := by unfold runFn; rw [h]
def T0 : Tab := [(Str.ofString "_law_closed", f_law_closed), (Str.ofString "_law_names", f_law_names), (Str.ofString "_law_renamed", f_law_renamed), (Str.ofString "_law_special", f_law_special), (Str.ofString "_law_order", f_law_order), (Str.ofString "_law_lattice", f_law_lattice), (Str.ofString "_law_draws", f_law_draws), (Str.ofString "_law_cell", f_law_cell)]
theorem has0 : HasLattice T0 where
  closed := rfl
  names := rfl
  special := rfl
  order := rfl
  lrenamed := rfl
  lattice := rfl
theorem hasd0 : HasDraws T0 := ⟨rfl, rfl⟩
section
variable {T : Tab}
theorem c0_closed [h : HasF T "_law_closed" f_law_closed] (k : Nat) : callF T (k + 1) (Str.ofString "_law_closed") = callF T0 1 (Str.ofString "_law_closed") := by
  funext args
  rw [callF_eq h.e, callF_eq (T := T0) (k := 0) (x := Str.ofString "_law_closed") rfl]
  exact runFn_congr rfl args
theorem c0_names [h : HasF T "_law_names" f_law_names] (k : Nat) : callF T (k + 1) (Str.ofString "_law_names") = callF T0 1 (Str.ofString "_law_names") := by
  funext args
  rw [callF_eq h.e, callF_eq (T := T0) (k := 0) (x := Str.ofString "_law_names") rfl]
  exact runFn_congr rfl args
theorem c0_draws [h : HasF T "_law_draws" f_law_draws] (k : Nat) : callF T (k + 1) (Str.ofString "_law_draws") = callF T0 1 (Str.ofString "_law_draws") := by
  funext args
  rw [callF_eq h.e, callF_eq (T := T0) (k := 0) (x := Str.ofString "_law_draws") rfl]
  exact runFn_congr rfl args
theorem c0_special [HasF T "_law_closed" f_law_closed] [h : HasF T "_law_special" f_law_special] (k : Nat) : callF T (k + 2) (Str.ofString "_law_special") = callF T0 2 (Str.ofString "_law_special") := by
  funext args
  rw [callF_eq h.e, callF_eq (T := T0) (k := 1) (x := Str.ofString "_law_special") rfl]
  refine runFn_congr ?_ args
  simp only [f_law_special, xcall_eq (c0_closed (T := T) k)]
theorem c0_order [HasF T "_law_closed" f_law_closed] [HasF T "_law_names" f_law_names] [HasF T "_law_special" f_law_special] [h : HasF T "_law_order" f_law_order] (k : Nat) : callF T (k + 3) (Str.ofString "_law_order") = callF T0 3 (Str.ofString "_law_order") := by
  funext args
  rw [callF_eq h.e, callF_eq (T := T0) (k := 2) (x := Str.ofString "_law_order") rfl]
  refine runFn_congr ?_ args
  have e1 := c0_closed (T := T) (k + 1)
  have e2 := c0_names (T := T) (k + 1)
  have e3 := c0_special (T := T) k
  have e4 : callF T0 2 (Str.ofString "_law_closed") = callF T0 1 (Str.ofString "_law_closed") := @c0_closed T0 ⟨rfl⟩ 1
  have e5 : callF T0 2 (Str.ofString "_law_names") = callF T0 1 (Str.ofString "_law_names") := @c0_names T0 ⟨rfl⟩ 1
  have r : ∀ C : Calls, f_law_order_L1 C = f_law_order_L1 (callF T0 2) := fun C => rfl
  have r2 : ∀ C : Calls, f_law_order_L2 C = f_law_order_L2 (callF T0 2) := fun C => rfl
  simp only [f_law_order, xcall_eq e1, xcall_eq e2, xcall_eq e3, xcall_eq e4, xcall_eq e5, r (callF T (k + 2)), r2 (callF T (k + 2))]
end
abbrev Ord := Int × List (Int × Int)
instance : Nonempty Ord := ⟨(0, [])⟩
noncomputable def p_law_draws (c n : Int) : List Int := Classical.epsilon fun ds : List Int => Draws ds n.toNat ∧ callF T0 1 (Str.ofString "_law_draws") [.v (.int c), .v (.int n)] = some (.ok (.fr (.l (ds.map .int))) [.v (.int c), .v (.int n)])
def q_law_draws (_ n : Int) : Prop := 0 ≤ n ∧ n ≤ 1000
theorem law_draws_spec {c n : Int} (h : q_law_draws c n) : Draws (p_law_draws c n) n.toNat ∧ callF T0 1 (Str.ofString "_law_draws") [.v (.int c), .v (.int n)] = some (.ok (.fr (.l ((p_law_draws c n).map .int))) [.v (.int c), .v (.int n)]) :=
  Classical.epsilon_spec (sp_draws hasd0 c n h 1 (by omega))
theorem r_law_draws {T : Tab} [HasF T "_law_draws" f_law_draws] (v_cell v_amount : Int) (hq : q_law_draws v_cell v_amount) {k : Nat} (hk : 1 ≤ k) : callF T k (Str.ofString "_law_draws") [.v (PyData.int v_cell), .v (PyData.int v_amount)] = some (.ok (rxF PyData.int (p_law_draws v_cell v_amount)) [.v (PyData.int v_cell), .v (PyData.int v_amount)]) := by
  obtain ⟨k, rfl⟩ : ∃ k', k = k' + 1 := ⟨k - 1, by omega⟩
  rw [c0_draws]; exact (law_draws_spec hq).2
noncomputable def p_law_order (ds : List Int) (most : Int) : Ord := Classical.epsilon fun o : Ord => OrderOk most o.1 o.2 ∧ callF T0 3 (Str.ofString "_law_order") [.v (.list (ds.map .int)), .v (.int most)] = some (.ok (.v (graphD o.1 o.2)) [.v (.list (ds.map .int)), .v (.int most)])
def q_law_order (ds : List Int) (most : Int) : Prop := (∃ N, Draws ds N ∧ 3 ≤ N ∧ N ≤ 1000) ∧ 1 ≤ most ∧ most ≤ 8
theorem law_order_spec {ds : List Int} {most : Int} (h : q_law_order ds most) : OrderOk most (p_law_order ds most).1 (p_law_order ds most).2 ∧ callF T0 3 (Str.ofString "_law_order") [.v (.list (ds.map .int)), .v (.int most)] = some (.ok (.v (graphD (p_law_order ds most).1 (p_law_order ds most).2)) [.v (.list (ds.map .int)), .v (.int most)]) := by
  obtain ⟨⟨N, h1, h2, h3⟩, h4⟩ := h
  obtain ⟨n, ps, h5, h6⟩ := sp_order has0.toHasOrder h1 h2 h3 most h4 3 (by omega)
  exact Classical.epsilon_spec (p := fun o : Ord => OrderOk most o.1 o.2 ∧ callF T0 3 (Str.ofString "_law_order") [.v (.list (ds.map .int)), .v (.int most)] = some (.ok (.v (graphD o.1 o.2)) [.v (.list (ds.map .int)), .v (.int most)])) ⟨(n, ps), h5, h6⟩
theorem r_law_order {T : Tab} [HasF T "_law_closed" f_law_closed] [HasF T "_law_names" f_law_names] [HasF T "_law_special" f_law_special] [HasF T "_law_order" f_law_order] (v_draws : List Int) (v_most : Int) (hq : q_law_order v_draws v_most) {k : Nat} (hk : 3 ≤ k) :
    callF T k (Str.ofString "_law_order") [.v (eL PyData.int v_draws), .v (PyData.int v_most)] = some (.ok (rxV (eT2 PyData.int (eT (eT2 PyData.int PyData.int))) (p_law_order v_draws v_most)) [.v (eL PyData.int v_draws), .v (PyData.int v_most)]) := by
  obtain ⟨k, rfl⟩ : ∃ k', k = k' + 3 := ⟨k - 3, by omega⟩
  rw [c0_order]; exact (law_order_spec hq).2
def p_law_equal (_ _ : D) : Bool := true
def q_law_equal (x due : D) : Prop := x = due ∧ ∃ n, n ≤ 50 ∧ okE n x = true
theorem r_law_equal {T : Tab} [h1 : HasF T "_law_kind" f_law_kind] [h2 : HasF T "_law_equal" f_law_equal] (v_x v_due : D) (hq : q_law_equal v_x v_due) {k : Nat} (hk : 60 ≤ k) : callF T k (Str.ofString "_law_equal") [.v (eA v_x), .v (eA v_due)] = some (.ok (rxV PyData.bool (p_law_equal v_x v_due)) [.v (eA v_x), .v (eA v_due)]) := by
  obtain ⟨rfl, n, hn, ho⟩ := hq
  exact sp_equal ⟨h1.e, h2.e⟩ n v_x ho k (by omega)
abbrev LkS := List Int × List (Option Int)
def lkGo (o : Int × List (Int × Int)) (rec : Int → LkS → Bool × LkS) (a : Int) : List Int → LkS → Bool × LkS
  | [], s => (false, s)
  | b :: bs, s => if (a, b) ∈ o.2 ∧ b ∉ s.1 then (match gtD s.2 b with
      | none => (true, (s.1 ++ [b], putD s.2 b (some a)))
      | some a' => if (rec a' (s.1 ++ [b], s.2)).1 = true then (true, ((rec a' (s.1 ++ [b], s.2)).2.1, putD (rec a' (s.1 ++ [b], s.2)).2.2 b (some a))) else lkGo o rec a bs (rec a' (s.1 ++ [b], s.2)).2)
    else lkGo o rec a bs s
def lk (o : Int × List (Int × Int)) : Nat → Int → LkS → Bool × LkS
  | 0, _, s => (false, s)
  | m + 1, a, s => lkGo o (lk o m) a (rngI 0 o.1.toNat) s
structure LkOk (n : Int) (s : LkS) : Prop where
  nd : s.1.Nodup
  inn : ∀ b ∈ s.1, 0 ≤ b ∧ b < n
  len : (s.2.length : Int) = n
theorem putD_len {α : Type} (l : List α) (i : Int) (x : α) : (putD l i x).length = l.length := by unfold putD; rw [List.length_set]
theorem rng_mem {n : Int} {b : Int} : b ∈ rngI 0 n.toNat ↔ 0 ≤ b ∧ b < n := by
  unfold rngI
  simp only [List.mem_map, List.mem_range]
  constructor
  · rintro ⟨i, hi, rfl⟩; omega
  · intro h; exact ⟨b.toNat, by omega, by omega⟩
theorem nd_le {l m : List Int} (hn : l.Nodup) (h : ∀ x ∈ l, x ∈ m) : l.length ≤ m.length := nodup_le hn h
theorem LkOk.more {n : Int} {s : LkS} (h : LkOk n s) {b : Int} (hb : 0 ≤ b ∧ b < n) (hn : b ∉ s.1) : LkOk n (s.1 ++ [b], s.2) := by
  refine ⟨List.nodup_append.mpr ⟨h.nd, by simp, fun x hx y hy e => ?_⟩, fun x hx => ?_, h.len⟩
  · rw [List.mem_singleton] at hy; subst hy; subst e; exact hn hx
  · rcases List.mem_append.mp hx with hx | hx
    · exact h.inn x hx
    · rw [List.mem_singleton.mp hx]; exact hb
theorem LkOk.lt {n : Int} {s : LkS} (h : LkOk n s) {b : Int} (hb : 0 ≤ b ∧ b < n) (hn : b ∉ s.1) : s.1.length < n.toNat := by
  have := nd_le (l := b :: s.1) (m := rngI 0 n.toNat) (List.nodup_cons.mpr ⟨hn, h.nd⟩) fun x hx => by
    rcases List.mem_cons.mp hx with rfl | hx
    · exact rng_mem.mpr hb
    · exact rng_mem.mpr (h.inn x hx)
  rw [List.length_cons] at this
  have e : (rngI 0 n.toNat).length = n.toNat := by unfold rngI; simp
  omega
theorem LkOk.put {n : Int} {s : LkS} (h : LkOk n s) (b : Int) (x : Option Int) : LkOk n (s.1, putD s.2 b x) := ⟨h.nd, h.inn, by show ((putD s.2 b x).length : Int) = n; rw [putD_len]; exact h.len⟩
theorem forGo_nx {α S : Type} (enc : α → D) (tg : Tgt) (body : SEx) (I : S → En → Prop) (step : S → α → S) (s0 : S) (l : List α)
    (hb : ∀ pre a post s ρ, pre ++ a :: post = l → s = pre.foldl step s0 → I s ρ → ∃ ρ2 ρ3, tg (enc a) ρ = some ρ2 ∧ body ρ2 = some (.nx, ρ3) ∧ I (step s a) ρ3) :
    ∀ (post pre : List α) (s : S) (ρ : En), pre ++ post = l → s = pre.foldl step s0 → I s ρ → ∃ ρ', forGo tg body (post.map enc) ρ = some (.nx, ρ') ∧ I (l.foldl step s0) ρ'
  | [], pre, s, ρ, he, hs, hI => ⟨ρ, rfl, by rw [List.append_nil] at he; rw [← he, ← hs]; exact hI⟩
  | a :: post, pre, s, ρ, he, hs, hI => by
    obtain ⟨ρ2, ρ3, h1, h2, h3⟩ := hb pre a post s ρ he hs hI
    obtain ⟨ρ', h4, h5⟩ := forGo_nx enc tg body I step s0 l hb post (pre ++ [a]) (step s a) ρ3 (by rw [← he]; simp) (by rw [List.foldl_append, ← hs]; rfl) h3
    refine ⟨ρ', ?_, h5⟩
    rw [List.map_cons]
    unfold forGo
    rw [h1, Option.bind_some, h2]
    exact h4
theorem sFor_nx {α S : Type} {enc : α → D} {tg : Tgt} {body : SEx} {sr : IEx} {ρ : En} (I : S → En → Prop) (step : S → α → S) (s0 : S) (l : List α) (hs : IT sr ρ (l.map enc) none) (h0 : I s0 ρ)
    (hb : ∀ pre a post s ρ, pre ++ a :: post = l → s = pre.foldl step s0 → I s ρ → ∃ ρ2 ρ3, tg (enc a) ρ = some ρ2 ∧ body ρ2 = some (.nx, ρ3) ∧ I (step s a) ρ3) :
    ∃ ρ', sFor sr tg body ρ = some (.nx, ρ') ∧ I (l.foldl step s0) ρ' := by
  obtain ⟨ρ', h1, h2⟩ := forGo_nx enc tg body I step s0 l hb l [] s0 ρ rfl rfl h0
  refine ⟨ρ', ?_, h2⟩
  unfold sFor
  unfold IT at hs
  rw [hs, Option.bind_some]
  show ((forGo tg body (l.map enc) ρ).map _) = _
  rw [h1]; rfl
theorem acons_eq {f : Ex} {fs : AEx} {ρ ρ1 ρ2 : En} {x : XV} {xs : List XV} (h1 : stl f ρ = some (x, ρ1)) (hh : x.held = true) (h2 : fs ρ1 = some (xs, ρ2)) : acons f fs ρ = some (x :: xs, ρ2) := by
  unfold acons
  rw [h1, Option.bind_some]
  show (if x.held = true then _ else _) = _
  rw [if_pos hh, h2]; rfl
theorem stl_v {f : Ex} {ρ : En} {d : D} (h : EX f ρ d) : stl f ρ = some (.v d, ρ) := by
  unfold EX at h
  unfold stl
  rw [h]; rfl
theorem foldl_flat {α β : Type} (f : α → List β) : ∀ (l : List α) (s : List β), l.foldl (fun s x => s ++ f x) s = s ++ l.flatMap f
  | [], s => by simp
  | a :: l, s => by rw [List.foldl_cons, foldl_flat f l, List.flatMap_cons, List.append_assoc]
abbrev eP : Int × Int → D := eT2 PyData.int PyData.int
def rcS (s : List (Int × Int)) (c a b : Int) : List (Int × Int) := if (a, c) ∈ s ∧ (c, b) ∈ s then (if (a, b) ∈ s then s else (a, b) :: s) else s
structure RcR (R : List (Int × Int)) (s : List (Int × Int)) : Prop where
  nd : s.Nodup
  inn : ∀ p ∈ s, p ∈ R
section
variable {R : List (Int × Int)} {s : List (Int × Int)} (tr : ∀ a b c, (a, b) ∈ R → (b, c) ∈ R → (a, c) ∈ R)
include tr
theorem RcR.stp (h : RcR R s) (c a b : Int) : RcR R (rcS s c a b) := by
  unfold rcS
  split
  · rename_i hc
    split
    · exact h
    · rename_i hn
      refine ⟨List.nodup_cons.mpr ⟨hn, h.nd⟩, fun p hp => ?_⟩
      rcases List.mem_cons.mp hp with rfl | hp
      · exact tr a c b (h.inn _ hc.1) (h.inn _ hc.2)
      · exact h.inn p hp
  · exact h
theorem RcR.fold {α : Type} (f : List (Int × Int) → α → List (Int × Int)) (hf : ∀ s x, RcR R s → RcR R (f s x)) : ∀ (l : List α) (s : List (Int × Int)), RcR R s → RcR R (l.foldl f s)
  | [], s, h => h
  | x :: l, s, h => RcR.fold f hf l _ (hf s x h)
end
section
variable {α : Type} [DecidableEq α]
abbrev BKv (α : Type) := List (α × Option α)
def bvl (kv : BKv α) (x : α) : Option (Option α) := (kv.find? fun q => decide (q.1 = x)).map (·.2)
def bfS (h : α) (st : BKv α × List α) (x : α) : BKv α × List α := if (bvl st.1 x).isSome = true then st else (st.1 ++ [(x, some h)], st.2 ++ [x])
inductive WfB (nb : α → List α) (a : α) : BKv α → Prop
  | one : WfB nb a [(a, none)]
  | snoc {l : BKv α} {y x : α} : WfB nb a l → y ∈ l.map (·.1) → x ∉ l.map (·.1) → x ∈ nb y → WfB nb a (l ++ [(x, some y)])
inductive IsTr (kv : BKv α) : α → List α → Prop
  | root {x : α} : bvl kv x = some none → IsTr kv x [x]
  | step {x y : α} {p : List α} : bvl kv x = some (some y) → IsTr kv y p → IsTr kv x (x :: p)
theorem bvl_mem {kv : BKv α} {x : α} : (bvl kv x).isSome = true ↔ x ∈ kv.map (·.1) := by
  unfold bvl
  rw [Option.isSome_map, List.find?_isSome]
  simp only [decide_eq_true_eq, List.mem_map]
theorem bvl_snoc {kv : BKv α} {x : α} (h : x ∈ kv.map (·.1)) (e : α × Option α) : bvl (kv ++ [e]) x = bvl kv x := by
  have := bvl_mem.mpr h
  unfold bvl at *
  rw [List.find?_append]
  cases q : kv.find? fun q => decide (q.1 = x) with
  | none => rw [q] at this; cases this
  | some z => rfl
theorem bvl_new {kv : BKv α} {x : α} (h : x ∉ kv.map (·.1)) (o : Option α) : bvl (kv ++ [(x, o)]) x = some o := by
  unfold bvl
  rw [List.find?_append]
  have : kv.find? (fun q => decide (q.1 = x)) = none := by
    rw [List.find?_eq_none]
    intro q hq z
    exact h (List.mem_map.mpr ⟨q, hq, of_decide_eq_true z⟩)
  rw [this]
  simp
theorem WfB.nodup {nb : α → List α} {a : α} {l : BKv α} (h : WfB nb a l) : (l.map (·.1)).Nodup := by
  induction h with
  | one => simp
  | snoc h1 h2 h3 h4 ih =>
    rw [List.map_append, List.nodup_append]
    refine ⟨ih, by simp, fun x hx y hy e => ?_⟩
    simp only [List.map_cons, List.map_nil, List.mem_singleton] at hy
    subst hy; subst e
    exact h3 hx
theorem WfB.start {nb : α → List α} {a : α} {l : BKv α} (h : WfB nb a l) : a ∈ l.map (·.1) := by
  induction h with
  | one => simp
  | snoc h1 h2 h3 h4 ih => rw [List.map_append]; exact List.mem_append_left _ ih
theorem IsTr.snoc {kv : BKv α} (hp : ∀ x y, bvl kv x = some (some y) → y ∈ kv.map (·.1)) {e : α × Option α} {x : α} {p : List α} (h : IsTr kv x p) : IsTr (kv ++ [e]) x p := by
  induction h with
  | root h1 => exact .root (by rw [bvl_snoc (bvl_mem.mp (by rw [h1]; rfl))]; exact h1)
  | step h1 _ ih => exact .step (by rw [bvl_snoc (bvl_mem.mp (by rw [h1]; rfl))]; exact h1) ih
structure TrOk (nb : α → List α) (a : α) (l : BKv α) (x : α) (p : List α) : Prop where
  tr : IsTr l x p
  nd : p.Nodup
  inn : ∀ y ∈ p, y ∈ l.map (·.1)
  len : p.length ≤ l.length
  last : p.getLast? = some a
  ch : ∀ i u v, p[i]? = some u → p[i + 1]? = some v → u ∈ nb v
theorem IsTr.head {kv : BKv α} {x : α} {p : List α} (h : IsTr kv x p) : ∃ q, p = x :: q := by
  cases h with
  | root _ => exact ⟨[], rfl⟩
  | step _ _ => exact ⟨_, rfl⟩
theorem WfB.tr {nb : α → List α} {a : α} {l : BKv α} (h : WfB nb a l) : (∀ x y, bvl l x = some (some y) → y ∈ l.map (·.1)) ∧ ∀ x ∈ l.map (·.1), ∃ p, TrOk nb a l x p := by
  induction h with
  | one =>
    refine ⟨fun x y e => ?_, fun x hx => ?_⟩
    · unfold bvl at e
      by_cases z : a = x
      · simp [List.find?_cons, z] at e
      · simp [List.find?_cons, z] at e
    · simp only [List.map_cons, List.map_nil, List.mem_singleton] at hx
      subst hx
      exact ⟨[x], .root (by simp [bvl]), by simp, by simp, by simp, rfl, fun i u v h1 h2 => by simp at h2⟩
  | @snoc l y x h1 h2 h3 h4 ih =>
    obtain ⟨i1, i2⟩ := ih
    have par : ∀ u v, bvl (l ++ [(x, some y)]) u = some (some v) → v ∈ (l ++ [(x, some y)]).map (·.1) := fun u v e => by
      rw [List.map_append]
      by_cases hu : u ∈ l.map (·.1)
      · rw [bvl_snoc hu] at e
        exact List.mem_append_left _ (i1 u v e)
      · have hm := bvl_mem.mp (show (bvl (l ++ [(x, some y)]) u).isSome = true by rw [e]; rfl)
        rw [List.map_append] at hm
        rcases List.mem_append.mp hm with hm | hm
        · exact absurd hm hu
        · simp only [List.map_cons, List.map_nil, List.mem_singleton] at hm
          subst hm
          rw [bvl_new h3] at e
          cases e
          exact List.mem_append_left _ h2
    refine ⟨par, fun z hz => ?_⟩
    by_cases hu : z ∈ l.map (·.1)
    · obtain ⟨p, q⟩ := i2 z hu
      exact ⟨p, q.tr.snoc i1, q.nd, fun u hu => by rw [List.map_append]; exact List.mem_append_left _ (q.inn u hu), by rw [List.length_append]; have := q.len; omega, q.last, q.ch⟩
    · rw [List.map_append] at hz
      rcases List.mem_append.mp hz with hz | hz
      · exact absurd hz hu
      · simp only [List.map_cons, List.map_nil, List.mem_singleton] at hz
        subst hz
        obtain ⟨p, q⟩ := i2 y h2
        refine ⟨z :: p, .step (bvl_new h3 _) (q.tr.snoc i1), List.nodup_cons.mpr ⟨fun e => h3 (q.inn z e), q.nd⟩, fun u hu => ?_, ?_, ?_, fun i u v e1 e2 => ?_⟩
        · rw [List.map_append]
          rcases List.mem_cons.mp hu with rfl | hu
          · exact List.mem_append_right _ (by simp)
          · exact List.mem_append_left _ (q.inn u hu)
        · rw [List.length_cons, List.length_append, List.length_singleton]; have := q.len; omega
        · obtain ⟨p', rfl⟩ := q.tr.head
          rw [List.getLast?_cons_cons]; exact q.last
        · obtain ⟨p', rfl⟩ := q.tr.head
          cases i with
          | zero =>
            simp only [List.getElem?_cons_zero, List.getElem?_cons_succ, Option.some.injEq] at e1 e2
            subst e1; subst e2; exact h4
          | succ i => exact q.ch i u v (by simpa using e1) (by simpa using e2)
structure BfI (nb : α → List α) (a : α) (U : List α) (st : BKv α × List α) : Prop where
  wf : WfB nb a st.1
  wk : ∀ x ∈ st.2, x ∈ st.1.map (·.1)
  u : ∀ x ∈ st.1.map (·.1), x ∈ U
theorem al_le {l m : List α} (hn : l.Nodup) (h : ∀ x ∈ l, x ∈ m) : l.length ≤ m.length := by
  induction l generalizing m with
  | nil => simp
  | cons a l ih =>
    obtain ⟨h1, h2⟩ := List.nodup_cons.mp hn
    obtain ⟨s, t, rfl⟩ := List.append_of_mem (h a List.mem_cons_self)
    have := ih (m := s ++ t) h2 fun x hx => by
      have := h x (List.mem_cons_of_mem _ hx)
      have hne : x ≠ a := fun z => by subst z; exact h1 hx
      simp only [List.mem_append, List.mem_cons] at this ⊢
      rcases this with h | h | h
      · exact .inl h
      · exact absurd h hne
      · exact .inr h
    simp only [List.length_append, List.length_cons] at this ⊢
    omega
variable {nb : α → List α} {a : α} {U : List α}
theorem BfI.le {st : BKv α × List α} (h : BfI nb a U st) : st.1.length ≤ U.length := by
  have := al_le h.wf.nodup h.u
  rwa [List.length_map] at this
theorem BfI.stp {st : BKv α × List α} (h : BfI nb a U st) {y x : α} (hy : y ∈ st.1.map (·.1)) (hx : x ∈ nb y) (hU : x ∈ U) : BfI nb a U (bfS y st x) ∧ y ∈ (bfS y st x).1.map (·.1) := by
  unfold bfS
  split
  · exact ⟨h, hy⟩
  · rename_i hn
    have hn' : x ∉ st.1.map (·.1) := fun z => hn (bvl_mem.mpr z)
    refine ⟨⟨h.wf.snoc hy hn' hx, fun z hz => ?_, fun z hz => ?_⟩, by rw [List.map_append]; exact List.mem_append_left _ hy⟩
    · rw [List.map_append]
      rcases List.mem_append.mp hz with hz | hz
      · exact List.mem_append_left _ (h.wk z hz)
      · exact List.mem_append_right _ (by simpa using hz)
    · rw [List.map_append] at hz
      rcases List.mem_append.mp hz with hz | hz
      · exact h.u z hz
      · simp only [List.map_cons, List.map_nil, List.mem_singleton] at hz
        subst hz; exact hU
theorem BfI.fold {y : α} : ∀ (l : List α) {st : BKv α × List α}, BfI nb a U st → y ∈ st.1.map (·.1) → (∀ x ∈ l, x ∈ nb y) → (∀ x ∈ l, x ∈ U) → BfI nb a U (l.foldl (bfS y) st) ∧ y ∈ (l.foldl (bfS y) st).1.map (·.1)
  | [], st, h, hy, _, _ => ⟨h, hy⟩
  | x :: l, st, h, hy, h1, h2 => by
    obtain ⟨h3, h4⟩ := h.stp hy (h1 x List.mem_cons_self) (h2 x List.mem_cons_self)
    exact BfI.fold l h3 h4 (fun z hz => h1 z (List.mem_cons_of_mem _ hz)) fun z hz => h2 z (List.mem_cons_of_mem _ hz)
def bfM (U : List α) (st : BKv α × List α) : Nat := 2 * (U.length - st.1.length) + st.2.length
theorem bfM_stp {st : BKv α × List α} {y x : α} (h : BfI nb a U st) (hy : y ∈ st.1.map (·.1)) (hx : x ∈ nb y) (hU : x ∈ U) : bfM U (bfS y st x) ≤ bfM U st := by
  have hle := (h.stp hy hx hU).1.le
  unfold bfS at hle ⊢
  split
  · exact Nat.le_refl _
  · rename_i hn
    rw [if_neg hn] at hle
    simp only [List.length_append, List.length_singleton] at hle
    unfold bfM
    simp only [List.length_append, List.length_singleton]
    omega
theorem bfM_fold {y : α} : ∀ (l : List α) {st : BKv α × List α}, BfI nb a U st → y ∈ st.1.map (·.1) → (∀ x ∈ l, x ∈ nb y) → (∀ x ∈ l, x ∈ U) → bfM U (l.foldl (bfS y) st) ≤ bfM U st
  | [], _, _, _, _, _ => Nat.le_refl _
  | x :: l, st, h, hy, h1, h2 => by
    obtain ⟨h3, h4⟩ := h.stp hy (h1 x List.mem_cons_self) (h2 x List.mem_cons_self)
    exact Nat.le_trans (bfM_fold l h3 h4 (fun z hz => h1 z (List.mem_cons_of_mem _ hz)) fun z hz => h2 z (List.mem_cons_of_mem _ hz)) (bfM_stp h hy (h1 x List.mem_cons_self) (h2 x List.mem_cons_self))
theorem BfI.pop {kv : BKv α} {y : α} {ws : List α} (h : BfI nb a U (kv, y :: ws)) : BfI nb a U (kv, ws) ∧ y ∈ kv.map (·.1) := ⟨⟨h.wf, fun x hx => h.wk x (List.mem_cons_of_mem _ hx), h.u⟩, h.wk y List.mem_cons_self⟩
variable (hU : ∀ y ∈ U, ∀ x ∈ nb y, x ∈ U)
include hU
theorem BfI.turn {kv : BKv α} {y : α} {ws : List α} (h : BfI nb a U (kv, y :: ws)) : BfI nb a U ((nb y).foldl (bfS y) (kv, ws)) ∧ bfM U ((nb y).foldl (bfS y) (kv, ws)) < bfM U (kv, y :: ws) := by
  obtain ⟨h1, h2⟩ := h.pop
  have hy := hU y (h.u y h2)
  refine ⟨(BfI.fold (nb y) h1 h2 (fun _ z => z) hy).1, Nat.lt_of_le_of_lt (bfM_fold (nb y) h1 h2 (fun _ z => z) hy) ?_⟩
  unfold bfM
  simp only [List.length_cons]
  omega
def BfC (nb : α → List α) (st : BKv α × List α) : Prop := ∀ y ∈ st.1.map (·.1), y ∉ st.2 → ∀ x ∈ nb y, x ∈ st.1.map (·.1)
omit hU in
theorem bfS_keys {y x z : α} {st : BKv α × List α} : z ∈ (bfS y st x).1.map (·.1) ↔ z ∈ st.1.map (·.1) ∨ z = x := by
  unfold bfS
  split
  · rename_i h
    exact ⟨.inl, fun q => q.elim id fun e => by rw [e]; exact bvl_mem.mp h⟩
  · rw [List.map_append, List.mem_append]; simp
omit hU in
theorem bfS_wait {y x z : α} {st : BKv α × List α} : z ∈ (bfS y st x).2 ↔ z ∈ st.2 ∨ (z = x ∧ x ∉ st.1.map (·.1)) := by
  unfold bfS
  split
  · rename_i h
    have := bvl_mem.mp h
    exact ⟨.inl, fun q => q.elim id fun e => absurd this e.2⟩
  · rename_i h
    have h2 : x ∉ st.1.map (·.1) := fun z => h (bvl_mem.mpr z)
    rw [List.mem_append]
    simp only [List.mem_singleton]
    exact ⟨fun q => q.elim .inl fun e => .inr ⟨e, h2⟩, fun q => q.elim .inl fun e => .inr e.1⟩
omit hU in
theorem bfF_keys {y z : α} : ∀ (l : List α) {st : BKv α × List α}, z ∈ (l.foldl (bfS y) st).1.map (·.1) ↔ z ∈ st.1.map (·.1) ∨ z ∈ l
  | [], st => by simp
  | x :: l, st => by rw [List.foldl_cons, bfF_keys l, bfS_keys, List.mem_cons, or_assoc]
omit hU in
theorem bfF_wait {y z : α} : ∀ (l : List α) {st : BKv α × List α}, z ∈ (l.foldl (bfS y) st).2 ↔ z ∈ st.2 ∨ (z ∈ l ∧ z ∉ st.1.map (·.1))
  | [], st => by simp
  | x :: l, st => by
    rw [List.foldl_cons, bfF_wait l, bfS_wait, bfS_keys, List.mem_cons]
    by_cases e : z = x
    · subst e
      by_cases m : z ∈ st.1.map (·.1)
      · simp [m]
      · simp [m]
    · simp [e]
omit hU in
theorem BfC.turn {kv : BKv α} {y : α} {ws : List α} (h : BfC nb (kv, y :: ws)) : BfC nb ((nb y).foldl (bfS y) (kv, ws)) := by
  intro z hz hw x hx
  rw [bfF_keys] at hz ⊢
  rw [bfF_wait] at hw
  simp only at hz hw ⊢
  by_cases e : z = y
  · subst e; exact .inr hx
  · rcases hz with hz | hz
    · exact .inl (h z hz (fun q => (List.mem_cons.mp q).elim e fun q => hw (.inl q)) x hx)
    · by_cases m : z ∈ kv.map (·.1)
      · exact .inl (h z m (fun q => (List.mem_cons.mp q).elim e fun q => hw (.inl q)) x hx)
      · exact absurd (.inr ⟨hz, m⟩) hw
end
def argGo {α : Type} (k : α → D) (b : α) : List α → α
  | [] => b
  | x :: l => if PySem.W.dataLt (k x) (k b) = true then argGo k x l else argGo k b l
def argK {α : Type} [Inhabited α] (k : α → D) : List α → α
  | [] => default
  | x :: l => argGo k x l
section
variable {α κ : Type} {enc : α → D} {encK : κ → D} {l : List α} {f body : Ex} {ρ : En} {iy : Nat}
theorem keysD_map (k : α → κ) : ∀ {l : List α}, (∀ x ∈ l, ∃ ρb, keyE iy ρ (enc x) = ρb ∧ EX body ρb (encK (k x))) → keysD iy body ρ (l.map enc) = some (l.map fun x => encK (k x))
  | [], _ => rfl
  | x :: l, h => by
    obtain ⟨ρb, e1, e2⟩ := h x List.mem_cons_self
    unfold EX at e2
    rw [List.map_cons, List.map_cons]
    unfold keysD
    rw [e1, e2]
    dsimp only
    rw [keysD_map k fun z hz => h z (List.mem_cons_of_mem _ hz)]
    rfl
theorem minGo_map (h1 : AlE encK) (h2 : NnE encK) (h3 : DpE encK 64) (k : α → κ) : ∀ (l : List α) (b : α), minGo (enc b) (encK (k b)) (l.map enc) (l.map fun x => encK (k x)) = some (enc (argGo (fun x => encK (k x)) b l))
  | [], b => rfl
  | x :: l, b => by
    rw [List.map_cons, List.map_cons]
    unfold minGo argGo
    rw [if_pos ⟨h1 _ _, h2 _, Nat.le_trans (Nat.min_le_left _ _) (h3 _)⟩]
    split
    · exact minGo_map h1 h2 h3 k l x
    · exact minGo_map h1 h2 h3 k l b
theorem ex_minKey [Inhabited α] (h1 : AlE encK) (h2 : NnE encK) (h3 : DpE encK 64) (k : α → κ) (h : EF f ρ (l.map enc)) (hl : l ≠ []) (hiy : iy < ρ.length) (hb : ∀ x ∈ l, ∃ ρb, keyE iy ρ (enc x) = ρb ∧ EX body ρb (encK (k x))) :
    EX (xMinKey iy f body) ρ (enc (argK (fun x => encK (k x)) l)) := by
  cases l with
  | nil => exact absurd rfl hl
  | cons x l =>
    have e := keysD_map k hb
    unfold EF at h
    rw [List.map_cons] at h e
    unfold EX xMinKey
    rw [h]
    show (if iy < ρ.length then _ else none) = _
    rw [if_pos hiy]
    show ((keysD iy body ρ (enc x :: l.map enc)).bind _) = _
    rw [e]
    show ((minGo (enc x) (encK (k x)) (l.map enc) (l.map fun x => encK (k x))).map _) = _
    rw [minGo_map h1 h2 h3 k l x]
    rfl
end
noncomputable section
def p_law_cell (v_script : List Int) (v_k : Int) : Int := (if (decide (v_k < (v_script.length : Int))) = true then (gtD v_script v_k) else (0 : Int))
def q_law_cell (v_script : List Int) (v_k : Int) : Prop := (((decide (v_k < (v_script.length : Int))) = true) → (InR v_script v_k))
theorem r_law_cell {T : Tab} [HasF T "_law_cell" f_law_cell] (v_script : List Int) (v_k : Int) (hq : q_law_cell v_script v_k) {k : Nat} (hk : 1 ≤ k) : callF T k (Str.ofString "_law_cell") [.r v_script, .v (PyData.int v_k)] = some (.ok ((rxV PyData.int) (p_law_cell v_script v_k)) [.r v_script, .v (PyData.int v_k)]) := by
  obtain ⟨k, rfl⟩ : ∃ k', k = k' + 1 := ⟨k - 1, by omega⟩
  unfold q_law_cell at hq
  rw [callF_eq (HasF.e (T := T) (x := "_law_cell") (d := f_law_cell))]
  exact fn_run (rx := (rxV PyData.int)) rfl rfl (sj_tail
  (sj_assoc (sj_if (RQ (rxV PyData.int)) ((gtD v_script v_k)) ((0 : Int)) (tv_b (ex_2 (EX.ev (ex_v (i := 1) rfl)) (EX.ev (ex_lenS (i := 0) rfl)) g_ltI))
  (fun hb1 => (sj_retX (ex_sc (i := 0) rfl (ex_v (i := 1) rfl) (hq hb1)) (.inl rfl)))
  (fun hb2 => (sj_nils (sj_retX ex_c (.inl rfl)))))))
def p_o_under (v_order : (Int × List ((Int × Int)))) (v_a : Int) : List (Int) := ((rngI 0 v_order.1.toNat).filter fun (x1 : Int) => (decide ((x1, v_a) ∈ v_order.2)))
def q_o_under (v_order : (Int × List ((Int × Int)))) (v_a : Int) : Prop := (v_order.1.natAbs ≤ 1000000)
theorem r_o_under {T : Tab} [HasF T "under" f_o_under] (v_order : (Int × List ((Int × Int)))) (v_a : Int) (hq : q_o_under v_order v_a) {k : Nat} (hk : 1 ≤ k) : callF T k (Str.ofString "under") [.v ((eT2 PyData.int (eT (eT2 PyData.int PyData.int))) v_order), .v (PyData.int v_a)] = some (.ok ((rxV (eT PyData.int)) (p_o_under v_order v_a)) [.v ((eT2 PyData.int (eT (eT2 PyData.int PyData.int))) v_order), .v (PyData.int v_a)]) := by
  obtain ⟨k, rfl⟩ : ∃ k', k = k' + 1 := ⟨k - 1, by omega⟩
  unfold q_o_under at hq
  rw [callF_eq (HasF.e (T := T) (x := "under") (d := f_o_under))]
  exact fn_run (rx := (rxV (eT PyData.int))) rfl rfl (sj_tail
  (sj_retX (ex_1 (EF.ev (ef_lcF (enc := PyData.int) (l := (rngI 0 v_order.1.toNat)) (fun (x1 : Int) => (decide ((x1, v_a) ∈ v_order.2))) (own := [2]) (ρ2 := [.v ((eT2 PyData.int (eT (eT2 PyData.int PyData.int))) v_order), .v (PyData.int v_a), .un]) (it_rng1 (ex_2 (EX.ev (ex_v (i := 0) rfl)) (EX.ev ex_c) (by rfl)) hq) rfl rfl rfl (fun x1 hx1 => ⟨[.v ((eT2 PyData.int (eT (eT2 PyData.int PyData.int))) v_order), .v (PyData.int v_a), .v (PyData.int x1)], (tg_v rfl rfl), (tv_b (ex_2 (EX.ev (ex_tup (av_cons (EX.ew (ex_v (i := 2) rfl)) (av_cons (EX.ew (ex_v (i := 1) rfl)) av_nil)))) (EX.ev (ex_2 (EX.ev (ex_v (i := 0) rfl)) (EX.ev ex_c) (by rfl))) (wo_inT (eq_2 eq_int eq_int) (dp_2 dp_int dp_int) (x1, v_a) v_order.2))), fun hb1 => (EX.ew (ex_v (i := 2) rfl)), rfl⟩))) (wo_tupL (f := PyData.int) ((rngI 0 v_order.1.toNat).filter fun (x1 : Int) => (decide ((x1, v_a) ∈ v_order.2))))) (.inl rfl)))
def p_o_turned (v_order : (Int × List ((Int × Int)))) : (Int × List ((Int × Int))) := (v_order.1, (srtBy (eT2 PyData.int PyData.int) (v_order.2.map fun (x1 : (Int × Int)) => (x1.2, x1.1))))
def p_o_ranks_found (v_order : (Int × List ((Int × Int)))) : List (Int) := ((List.replicate v_order.1.toNat ([(0 : Int)] : List (Int))).flatten)
def p_o_ranks_found' (v_order : (Int × List ((Int × Int)))) (s1 : List (Int)) : List (Int) := ((rngI 0 v_order.1.toNat).map fun (x2 : Int) => ((1 : Int) + (if ((p_o_under v_order x2).map fun (x3 : Int) => (gtD s1 x3)) = [] then (0 : Int) else maxT PyData.int ((p_o_under v_order x2).map fun (x3 : Int) => (gtD s1 x3)))))
def p_o_ranks_L (v_order : (Int × List ((Int × Int)))) : List (Int) → (Int) → List (Int) := fun (s1 : List (Int)) (x1 : Int) => (p_o_ranks_found' v_order s1)
def p_o_free_items_items (v_order : (Int × List ((Int × Int)))) (v_done : List (Int)) : List (Int) := ((rngI 0 v_order.1.toNat).filter fun (x1 : Int) => (!decide (x1 ∈ v_done)))
def p_o_free_items (v_order : (Int × List ((Int × Int)))) (v_done : List (Int)) : List (Int) := ((p_o_free_items_items v_order v_done).filter fun (x2 : Int) => ((p_o_under v_order x2).all fun (x3 : Int) => (decide (x3 ∈ v_done))))
def q_o_free_items (v_order : (Int × List ((Int × Int)))) (v_done : List (Int)) : Prop := (v_order.1.natAbs ≤ 1000000) ∧ (∀ x2 ∈ (p_o_free_items_items v_order v_done), (q_o_under v_order x2))
theorem r_o_free_items {T : Tab} [HasF T "free_items" f_o_free_items] [HasF T "under" f_o_under] (v_order : (Int × List ((Int × Int)))) (v_done : List (Int)) (hq : q_o_free_items v_order v_done) {k : Nat} (hk : 2 ≤ k) : callF T k (Str.ofString "free_items") [.v ((eT2 PyData.int (eT (eT2 PyData.int PyData.int))) v_order), .v ((eT PyData.int) v_done)] = some (.ok ((rxF PyData.int) (p_o_free_items v_order v_done)) [.v ((eT2 PyData.int (eT (eT2 PyData.int PyData.int))) v_order), .v ((eT PyData.int) v_done)]) := by
  obtain ⟨k, rfl⟩ : ∃ k', k = k' + 1 := ⟨k - 1, by omega⟩
  unfold q_o_free_items at hq
  rw [callF_eq (HasF.e (T := T) (x := "free_items") (d := f_o_free_items))]
  exact fn_run (rx := (rxF PyData.int)) rfl rfl (sj_tail
  (sj_assoc (sj_seq (ρ1 := [.v ((eT2 PyData.int (eT (eT2 PyData.int PyData.int))) v_order), .v ((eT PyData.int) v_done), .v ((eL PyData.int) (p_o_free_items_items v_order v_done)), .un, .un]) (set_eq (EF.ew (ef_lcF (enc := PyData.int) (l := (rngI 0 v_order.1.toNat)) (fun (x1 : Int) => (!decide (x1 ∈ v_done))) (own := [3]) (ρ2 := [.v ((eT2 PyData.int (eT (eT2 PyData.int PyData.int))) v_order), .v ((eT PyData.int) v_done), .un, .un, .un]) (it_rng1 (ex_2 (EX.ev (ex_v (i := 0) rfl)) (EX.ev ex_c) (by rfl)) hq.1) rfl rfl rfl (fun x1 hx1 => ⟨[.v ((eT2 PyData.int (eT (eT2 PyData.int PyData.int))) v_order), .v ((eT PyData.int) v_done), .un, .v (PyData.int x1), .un], (tg_v rfl rfl), (tv_b (ex_2 (EX.ev (ex_v (i := 3) rfl)) (EX.ev (ex_v (i := 1) rfl)) (wo_niT eq_int dp_int x1 v_done))), fun hb1 => (EX.ew (ex_v (i := 3) rfl)), rfl⟩))) rfl rfl)
  (sj_retF (ef_lcF (enc := PyData.int) (l := (p_o_free_items_items v_order v_done)) (fun (x2 : Int) => ((p_o_under v_order x2).all fun (x3 : Int) => (decide (x3 ∈ v_done)))) (own := [3]) (ρ2 := [.v ((eT2 PyData.int (eT (eT2 PyData.int PyData.int))) v_order), .v ((eT PyData.int) v_done), .v ((eL PyData.int) (p_o_free_items_items v_order v_done)), .un, .un]) (it_l (enc := PyData.int) (l := (p_o_free_items_items v_order v_done)) (ex_v (i := 2) rfl)) rfl rfl rfl (fun x2 hx2 => ⟨[.v ((eT2 PyData.int (eT (eT2 PyData.int PyData.int))) v_order), .v ((eT PyData.int) v_done), .v ((eL PyData.int) (p_o_free_items_items v_order v_done)), .v (PyData.int x2), .un], (tg_v rfl rfl), (tv_tt (EX.ev (ex_1 (EF.ev (ef_lcM (enc := PyData.int) (l := (p_o_under v_order x2)) (enc2 := PyData.bool) (fun (x3 : Int) => (decide (x3 ∈ v_done))) (own := [4]) (ρ2 := [.v ((eT2 PyData.int (eT (eT2 PyData.int PyData.int))) v_order), .v ((eT PyData.int) v_done), .v ((eL PyData.int) (p_o_free_items_items v_order v_done)), .v (PyData.int x2), .un]) (it_t (enc := PyData.int) (l := (p_o_under v_order x2)) (ex_call (AV.ac (av_cons (EX.ew (ex_v (i := 0) rfl)) (av_cons (EX.ew (ex_v (i := 3) rfl)) av_nil))) (r_o_under v_order x2 (hq.2 x2 hx2) (k := k) (by omega)))) rfl rfl rfl (fun x3 hx3 => ⟨[.v ((eT2 PyData.int (eT (eT2 PyData.int PyData.int))) v_order), .v ((eT PyData.int) v_done), .v ((eL PyData.int) (p_o_free_items_items v_order v_done)), .v (PyData.int x2), .v (PyData.int x3)], (tg_v rfl rfl), (EX.ew (ex_2 (EX.ev (ex_v (i := 4) rfl)) (EX.ev (ex_v (i := 1) rfl)) (wo_inT eq_int dp_int x3 v_done))), rfl⟩))) (wo_allc))) rfl), fun hb2 => (EX.ew (ex_v (i := 3) rfl)), rfl⟩)) (.inl rfl)))))
def p_law_lines_I_for (v_order : (Int × List ((Int × Int)))) : List (List (Int)) → En → Prop := fun (s0 : List (List (Int))) ρ => ∃ j1, ∃ j2, ∃ j3, ∃ j4, ρ = [.v ((eT2 PyData.int (eT (eT2 PyData.int PyData.int))) v_order), .v ((eL (eT PyData.int)) s0), j1, j2, j3, j4, .un, .un] ∧ okSetO j1 = true ∧ okSetO j2 = true ∧ okSetO j3 = true ∧ okSetO j4 = true
def p_law_lines_I_for' (v_order : (Int × List ((Int × Int)))) (x1 : Int) (s1 : List (List (Int))) : List (List (Int)) → En → Prop := fun (s0 : List (List (Int))) ρ => ∃ j1, ∃ j2, ρ = [.v ((eT2 PyData.int (eT (eT2 PyData.int PyData.int))) v_order), .v ((eL (eT PyData.int)) s1), .v (PyData.int x1), .o false (.l (s0.map (eT PyData.int))), j1, j2, .un, .un] ∧ okSetO j1 = true ∧ okSetO j2 = true
def p_law_lines_I_for'' (v_order : (Int × List ((Int × Int)))) (x1 : Int) (s1 : List (List (Int))) (x2 : List (Int)) : List (List (Int)) → En → Prop := fun (s0 : List (List (Int))) ρ => ∃ j1, ρ = [.v ((eT2 PyData.int (eT (eT2 PyData.int PyData.int))) v_order), .v ((eL (eT PyData.int)) s1), .v (PyData.int x1), .o false (.l (s0.map (eT PyData.int))), .v ((eT PyData.int) x2), j1, .un, .un] ∧ okSetO j1 = true
def p_law_lines_L (v_order : (Int × List ((Int × Int)))) (x2 : List (Int)) : List (List (Int)) → (Int) → List (List (Int)) := fun (s3 : List (List (Int))) (x3 : Int) => (if ((!decide (x3 ∈ x2)) && (decide ((((v_order.2.filter fun (x4 : (Int × Int)) => ((decide (x4.2 = x3)) && (!decide (x4.1 ∈ x2)))).map fun (x4 : (Int × Int)) => x4.1).length : Int) = (0 : Int)))) = true then (s3 ++ [(x2 ++ ([x3]))]) else s3)
def p_law_lines_rmore (v_order : (Int × List ((Int × Int)))) (x2 : List (Int)) (s2 : List (List (Int))) : List (List (Int)) := (rngI 0 v_order.1.toNat).foldl (p_law_lines_L v_order x2) s2
def p_law_lines_L' (v_order : (Int × List ((Int × Int)))) : List (List (Int)) → (List (Int)) → List (List (Int)) := fun (s2 : List (List (Int))) (x2 : List (Int)) => (p_law_lines_rmore v_order x2 s2)
def p_law_lines_rmore' (v_order : (Int × List ((Int × Int)))) (s1 : List (List (Int))) : List (List (Int)) := s1.foldl (p_law_lines_L' v_order) []
def p_law_lines_L'' (v_order : (Int × List ((Int × Int)))) : List (List (Int)) → (Int) → List (List (Int)) := fun (s1 : List (List (Int))) (x1 : Int) => (p_law_lines_rmore' v_order s1)
def p_law_lines_rrows (v_order : (Int × List ((Int × Int)))) : List (List (Int)) := (rngI 0 v_order.1.toNat).foldl (p_law_lines_L'' v_order) [[]]
def p_law_lines (v_order : (Int × List ((Int × Int)))) : List (List (Int)) := (p_law_lines_rrows v_order)
def q_law_lines (v_order : (Int × List ((Int × Int)))) : Prop := (v_order.1.natAbs ≤ 1000000) ∧ (∀ (pre1 : List (Int)) (x1 : Int) (post1 : List (Int)) (s1 : List (List (Int))), pre1 ++ x1 :: post1 = (rngI 0 v_order.1.toNat) → s1 = pre1.foldl (p_law_lines_L'' v_order) [[]] → (∀ (pre2 : List (List (Int))) (x2 : List (Int)) (post2 : List (List (Int))) (s2 : List (List (Int))), pre2 ++ x2 :: post2 = s1 → s2 = pre2.foldl (p_law_lines_L' v_order) [] → (v_order.1.natAbs ≤ 1000000) ∧ (∀ (pre3 : List (Int)) (x3 : Int) (post3 : List (Int)) (s3 : List (List (Int))), pre3 ++ x3 :: post3 = (rngI 0 v_order.1.toNat) → s3 = pre3.foldl (p_law_lines_L v_order x2) s2 → ((((!decide (x3 ∈ x2)) && (decide ((((v_order.2.filter fun (x4 : (Int × Int)) => ((decide (x4.2 = x3)) && (!decide (x4.1 ∈ x2)))).map fun (x4 : (Int × Int)) => x4.1).length : Int) = (0 : Int)))) = true) → ((x2.length + ([x3]).length ≤ 1000000) ∧ (s3.length < 1000000))))))
theorem r_law_lines {T : Tab} [HasF T "_law_lines" f_law_lines] (v_order : (Int × List ((Int × Int)))) (hq : q_law_lines v_order) {k : Nat} (hk : 1 ≤ k) : callF T k (Str.ofString "_law_lines") [.v ((eT2 PyData.int (eT (eT2 PyData.int PyData.int))) v_order)] = some (.ok ((rxV (eL (eT PyData.int))) (p_law_lines v_order)) [.v ((eT2 PyData.int (eT (eT2 PyData.int PyData.int))) v_order)]) := by
  obtain ⟨k, rfl⟩ : ∃ k', k = k' + 1 := ⟨k - 1, by omega⟩
  unfold q_law_lines at hq
  rw [callF_eq (HasF.e (T := T) (x := "_law_lines") (d := f_law_lines))]
  exact fn_run (rx := (rxV (eL (eT PyData.int)))) rfl rfl (sj_tail
  (sj_assoc (sj_seq (ρ1 := [.v ((eT2 PyData.int (eT (eT2 PyData.int PyData.int))) v_order), .v ((eL (eT PyData.int)) ([[]])), .un, .un, .un, .un, .un, .un]) (set_eq (EF.ew (ef_lst (av_cons (EX.ew (ex_tup av_nil)) av_nil))) rfl rfl)
  (sj_assoc (sj_forF (enc := PyData.int) (l := (rngI 0 v_order.1.toNat)) (p_law_lines_I_for v_order) (p_law_lines_L'' v_order) ([[]]) (it_rng1 (ex_2 (EX.ev (ex_v (i := 0) rfl)) (EX.ev ex_c) (by rfl)) hq.1) ⟨.un, .un, .un, .un, rfl, rfl, rfl, rfl, rfl⟩
  (fun pre1 x1 post1 s1 r1 he1 hp1 hI => by
  obtain ⟨j1, j2, j3, j4, rfl, hj1, hj2, hj3, hj4⟩ := hI
  exact ⟨[.v ((eT2 PyData.int (eT (eT2 PyData.int PyData.int))) v_order), .v ((eL (eT PyData.int)) s1), .v (PyData.int x1), j2, j3, j4, .un, .un], (tg_v rfl (okJ hj1)), sj_tail (sj_assoc (sj_seq (ρ1 := [.v ((eT2 PyData.int (eT (eT2 PyData.int PyData.int))) v_order), .v ((eL (eT PyData.int)) s1), .v (PyData.int x1), .o false (.l (([]).map (eT PyData.int))), j3, j4, .un, .un]) (setO_eq (ef_lst av_nil) rfl hj2)
  (sj_assoc (sj_forF (enc := (eT PyData.int)) (l := s1) (p_law_lines_I_for' v_order x1 s1) (p_law_lines_L' v_order) ([]) (it_l (enc := (eT PyData.int)) (l := s1) (ex_v (i := 1) rfl)) ⟨j3, j4, rfl, hj3, hj4⟩
  (fun pre2 x2 post2 s2 r2 he2 hp2 hI => by
  obtain ⟨j5, j6, rfl, hj5, hj6⟩ := hI
  exact ⟨[.v ((eT2 PyData.int (eT (eT2 PyData.int PyData.int))) v_order), .v ((eL (eT PyData.int)) s1), .v (PyData.int x1), .o false (.l (s2.map (eT PyData.int))), .v ((eT PyData.int) x2), j6, .un, .un], (tg_v rfl (okJ hj5)), sj_tail (sj_forF (enc := PyData.int) (l := (rngI 0 v_order.1.toNat)) (p_law_lines_I_for'' v_order x1 s1 x2) (p_law_lines_L v_order x2) s2 (it_rng1 (ex_2 (EX.ev (ex_v (i := 0) rfl)) (EX.ev ex_c) (by rfl)) ((hq.2 pre1 x1 post1 s1 he1 hp1) pre2 x2 post2 s2 he2 hp2).1) ⟨j6, rfl, hj6⟩
  (fun pre3 x3 post3 s3 r3 he3 hp3 hI => by
  obtain ⟨j7, rfl, hj7⟩ := hI
  exact ⟨[.v ((eT2 PyData.int (eT (eT2 PyData.int PyData.int))) v_order), .v ((eL (eT PyData.int)) s1), .v (PyData.int x1), .o false (.l (s3.map (eT PyData.int))), .v ((eT PyData.int) x2), .v (PyData.int x3), .un, .un], (tg_v rfl (okJ hj7)), sj_tail (sj_if (FQ (p_law_lines_I_for'' v_order x1 s1 x2)) ((s3 ++ [(x2 ++ ([x3]))])) (s3) (tv_and (tv_b (ex_2 (EX.ev (ex_v (i := 5) rfl)) (EX.ev (ex_v (i := 4) rfl)) (wo_niT eq_int dp_int x3 x2))) (fun hb3 => (tv_b (ex_2 (EX.ev (ex_1 (EF.ev (ef_lc (enc := (eT2 PyData.int PyData.int)) (l := v_order.2) (enc2 := PyData.int) (fun (x4 : (Int × Int)) => ((decide (x4.2 = x3)) && (!decide (x4.1 ∈ x2)))) (fun (x4 : (Int × Int)) => x4.1) (own := [6, 7]) (ρ2 := [.v ((eT2 PyData.int (eT (eT2 PyData.int PyData.int))) v_order), .v ((eL (eT PyData.int)) s1), .v (PyData.int x1), .o false (.l (s3.map (eT PyData.int))), .v ((eT PyData.int) x2), .v (PyData.int x3), .un, .un]) (it_t (enc := (eT2 PyData.int PyData.int)) (l := v_order.2) (ex_2 (EX.ev (ex_v (i := 0) rfl)) (EX.ev ex_c) (by rfl))) rfl rfl rfl (fun x4 hx4 => ⟨[.v ((eT2 PyData.int (eT (eT2 PyData.int PyData.int))) v_order), .v ((eL (eT PyData.int)) s1), .v (PyData.int x1), .o false (.l (s3.map (eT PyData.int))), .v ((eT PyData.int) x2), .v (PyData.int x3), .v (PyData.int x4.1), .v (PyData.int x4.2)], (tg_tup (tg_cons (tg_v rfl rfl) (tg_cons (tg_v rfl rfl) tg_nil))), (tv_and (tv_b (ex_2 (EX.ev (ex_v (i := 7) rfl)) (EX.ev (ex_v (i := 5) rfl)) (wo_eq eq_int dp_int x4.2 x3))) (fun hb1 => (tv_b (ex_2 (EX.ev (ex_v (i := 6) rfl)) (EX.ev (ex_v (i := 4) rfl)) (wo_niT eq_int dp_int x4.1 x2))))), fun hb2 => (EX.ew (ex_v (i := 6) rfl)), rfl⟩))) (wo_lenL (f := PyData.int) _))) (EX.ev ex_c) (wo_eq eq_int dp_int (((v_order.2.filter fun (x4 : (Int × Int)) => ((decide (x4.2 = x3)) && (!decide (x4.1 ∈ x2)))).map fun (x4 : (Int × Int)) => x4.1).length : Int) (0 : Int))))))
  (fun hb4 => (sj_seq (ρ1 := [.v ((eT2 PyData.int (eT (eT2 PyData.int PyData.int))) v_order), .v ((eL (eT PyData.int)) s1), .v (PyData.int x1), .o false (.l ((s3 ++ [(x2 ++ ([x3]))]).map (eT PyData.int))), .v ((eT PyData.int) x2), .v (PyData.int x3), .un, .un]) (app_eq (enc := (eT PyData.int)) (l := s3) (x := (x2 ++ ([x3]))) rfl (EX.ew (ex_2 (EX.ev (ex_v (i := 4) rfl)) (EX.ev (ex_tup (av_cons (EX.ew (ex_v (i := 5) rfl)) av_nil))) (wo_addT' (f := PyData.int) (l := x2) (m := [x3]) ((((hq.2 pre1 x1 post1 s1 he1 hp1) pre2 x2 post2 s2 he2 hp2).2 pre3 x3 post3 s3 he3 hp3) hb4).1))) ((((hq.2 pre1 x1 post1 s1 he1 hp1) pre2 x2 post2 s2 he2 hp2).2 pre3 x3 post3 s3 he3 hp3) hb4).2)
  (sj_nil ⟨.inl rfl, ⟨.v (PyData.int x3), rfl, rfl⟩⟩)))
  (fun hb5 => (sj_nils (sj_nil ⟨.inl rfl, ⟨.v (PyData.int x3), rfl, rfl⟩⟩))))⟩)
  (fun r3 hI => by
  obtain ⟨j8, rfl, hj8⟩ := hI
  exact (sj_nil ⟨.inl rfl, ⟨.v ((eT PyData.int) x2), j8, rfl, rfl, hj8⟩⟩)))⟩)
  (fun r2 hI => by
  obtain ⟨j9, j10, rfl, hj9, hj10⟩ := hI
  exact (sj_seq (ρ1 := [.v ((eT2 PyData.int (eT (eT2 PyData.int PyData.int))) v_order), .v ((eL (eT PyData.int)) (p_law_lines_rmore' v_order s1)), .v (PyData.int x1), .un, j9, j10, .un, .un]) (set_eqE (ep_mv (enc := (eT PyData.int)) (l := (p_law_lines_rmore' v_order s1)) rfl) rfl rfl)
  (sj_nil ⟨.inl rfl, ⟨.v (PyData.int x1), .un, j9, j10, rfl, rfl, rfl, hj9, hj10⟩⟩)))))))⟩)
  (fun r1 hI => by
  obtain ⟨j11, j12, j13, j14, rfl, hj11, hj12, hj13, hj14⟩ := hI
  exact (sj_retX (ex_v (i := 1) rfl) (.inl rfl))))))))
def p_o_jumps (v_order : (Int × List ((Int × Int)))) (v_line : List (Int)) : Int := (((rngI 0 ((v_line.length : Int) - (1 : Int)).toNat).filter fun (x1 : Int) => (!decide (((gtD v_line x1), (gtD v_line (x1 + (1 : Int)))) ∈ v_order.2))).length : Int)
def q_o_jumps (v_order : (Int × List ((Int × Int)))) (v_line : List (Int)) : Prop := (((v_line.length : Int) - (1 : Int)).natAbs ≤ 1000000) ∧ (∀ x1 ∈ (rngI 0 ((v_line.length : Int) - (1 : Int)).toNat), (InR v_line x1) ∧ (InR v_line (x1 + (1 : Int))))
theorem r_o_jumps {T : Tab} [HasF T "jumps" f_o_jumps] (v_order : (Int × List ((Int × Int)))) (v_line : List (Int)) (hq : q_o_jumps v_order v_line) {k : Nat} (hk : 1 ≤ k) : callF T k (Str.ofString "jumps") [.v ((eT2 PyData.int (eT (eT2 PyData.int PyData.int))) v_order), .v ((eT PyData.int) v_line)] = some (.ok ((rxV PyData.int) (p_o_jumps v_order v_line)) [.v ((eT2 PyData.int (eT (eT2 PyData.int PyData.int))) v_order), .v ((eT PyData.int) v_line)]) := by
  obtain ⟨k, rfl⟩ : ∃ k', k = k' + 1 := ⟨k - 1, by omega⟩
  unfold q_o_jumps at hq
  rw [callF_eq (HasF.e (T := T) (x := "jumps") (d := f_o_jumps))]
  exact fn_run (rx := (rxV PyData.int)) rfl rfl (sj_tail
  (sj_retX (ex_1 (EF.ev (ef_lcF (enc := PyData.int) (l := (rngI 0 ((v_line.length : Int) - (1 : Int)).toNat)) (fun (x1 : Int) => (!decide (((gtD v_line x1), (gtD v_line (x1 + (1 : Int)))) ∈ v_order.2))) (own := [2]) (ρ2 := [.v ((eT2 PyData.int (eT (eT2 PyData.int PyData.int))) v_order), .v ((eT PyData.int) v_line), .un]) (it_rng1 (ex_2 (EX.ev (ex_1 (EX.ev (ex_v (i := 1) rfl)) (wo_lenT (f := PyData.int) _))) (EX.ev ex_c) g_subI) hq.1) rfl rfl rfl (fun x1 hx1 => ⟨[.v ((eT2 PyData.int (eT (eT2 PyData.int PyData.int))) v_order), .v ((eT PyData.int) v_line), .v (PyData.int x1)], (tg_v rfl rfl), (tv_b (ex_2 (EX.ev (ex_tup (av_cons (EX.ew (ex_2 (EX.ev (ex_v (i := 1) rfl)) (EX.ev (ex_v (i := 2) rfl)) (wo_ixT (f := PyData.int) (l := v_line) (i := x1) (hq.2 x1 hx1).1))) (av_cons (EX.ew (ex_2 (EX.ev (ex_v (i := 1) rfl)) (EX.ev (ex_2 (EX.ev (ex_v (i := 2) rfl)) (EX.ev ex_c) g_addI)) (wo_ixT (f := PyData.int) (l := v_line) (i := (x1 + (1 : Int))) (hq.2 x1 hx1).2))) av_nil)))) (EX.ev (ex_2 (EX.ev (ex_v (i := 0) rfl)) (EX.ev ex_c) (by rfl))) (wo_niT (eq_2 eq_int eq_int) (dp_2 dp_int dp_int) ((gtD v_line x1), (gtD v_line (x1 + (1 : Int)))) v_order.2))), fun hb1 => (EX.ew (ex_v (i := 2) rfl)), rfl⟩))) (wo_lenL (f := PyData.int) _)) (.inl rfl)))
end
section
variable {α β γ : Type}
theorem sorted_perm_eq {r : α → α → Prop} (anti : ∀ a b, r a b → r b a → a = b) : ∀ {l m : List α}, l.Pairwise r → m.Pairwise r → l.Perm m → l = m
  | [], m, _, _, h => by rw [h.nil_eq]
  | a :: l, [], _, _, h => by have := h.length_eq; simp at this
  | a :: l, b :: m, h1, h2, h => by
    rw [List.pairwise_cons] at h1 h2
    have hab : a = b := by
      rcases List.mem_cons.mp (h.mem_iff.mp (List.mem_cons_self (a := a) (l := l))) with e | e
      · exact e
      · rcases List.mem_cons.mp (h.mem_iff.mpr (List.mem_cons_self (a := b) (l := m))) with e' | e'
        · exact e'.symm
        · exact anti _ _ (h1.1 _ e') (h2.1 _ e)
    subst hab
    rw [sorted_perm_eq anti h1.2 h2.2 ((List.perm_cons a).mp h)]
def dle (f : α → D) (a b : α) : Bool := PySem.W.dataLe false id (f a) (f b)
theorem dle_eq (f : α → D) (a b : α) : dle f a b = !ltE f b a := rfl
theorem dle_tot (f : α → D) : PySem.W.TotalLe (dle f) := by
  have h := PySem.W.sortLe_total (PyProof.Rows.listOrd PyProof.Rows.itemOrd) false fun b : D => PySem.W.keyToks b
  exact ⟨fun a b c => h.trans (f a) (f b) (f c), fun a b => h.total (f a) (f b)⟩
def KtE (f : α → D) : Prop := ∀ a b, PySem.W.keyToks (f a) = PySem.W.keyToks (f b) → a = b
theorem dle_anti {f : α → D} (h : KtE f) {a b : α} (h1 : dle f a b = true) (h2 : dle f b a = true) : a = b := by
  refine h a b ?_
  have e1 : PyProof.Rows.lexLt PyProof.Rows.itemOrd (PySem.W.keyToks (f b)) (PySem.W.keyToks (f a)) = false := by
    have : (!PyProof.Rows.lexLt PyProof.Rows.itemOrd (PySem.W.keyToks (f b)) (PySem.W.keyToks (f a))) = true := h1
    simpa using this
  have e2 : PyProof.Rows.lexLt PyProof.Rows.itemOrd (PySem.W.keyToks (f a)) (PySem.W.keyToks (f b)) = false := by
    have : (!PyProof.Rows.lexLt PyProof.Rows.itemOrd (PySem.W.keyToks (f a)) (PySem.W.keyToks (f b))) = true := h2
    simpa using this
  exact (PyProof.Rows.listOrd PyProof.Rows.itemOrd).total _ _ e2 e1
theorem kt_all : ∀ l m : List Int, PySem.W.keyToksAll (l.map PyData.int) = PySem.W.keyToksAll (m.map PyData.int) → l = m
  | [], [], _ => rfl
  | [], y :: m, h => by simp [PySem.W.keyToksAll, PySem.W.keyToks] at h
  | x :: l, [], h => by simp [PySem.W.keyToksAll, PySem.W.keyToks] at h
  | x :: l, y :: m, h => by
    simp only [List.map_cons, PySem.W.keyToksAll, PySem.W.keyToks, List.cons_append, List.nil_append, List.cons.injEq, Sum.inl.injEq, true_and] at h
    rw [h.1, kt_all l m h.2]
theorem kt_T : KtE (eT PyData.int) := fun a b h => kt_all a b h
theorem srtBy_sorted (f : α → D) (l : List α) : (srtBy f l).Pairwise fun a b => dle f a b = true := by
  have h := dle_tot f
  exact List.pairwise_mergeSort (le := dle f) (fun a b c => h.trans a b c) (fun a b => by
    rcases h.total a b with q | q <;> simp [q]) l
theorem srtBy_id {f : α → D} (h : KtE f) {l : List α} (p : l.Pairwise fun a b => dle f a b = true) : srtBy f l = l :=
  sorted_perm_eq (r := fun a b => dle f a b = true) (fun a b => dle_anti h) (srtBy_sorted f l) p (srtBy_perm f l)
theorem foldl_app_flat (g : α → List β) : ∀ (l : List α) (acc : List β), l.foldl (fun s x => s ++ g x) acc = acc ++ l.flatMap g
  | [], acc => by simp
  | a :: l, acc => by
    rw [List.foldl_cons, foldl_app_flat g l]; simp
theorem none_not (p : α → Bool) (l : List α) : decide (((l.filter fun x => !p x).length : Int) = 0) = l.all p := by
  rw [Bool.eq_iff_iff, decide_eq_true_eq, List.all_eq_true]
  have e : ((l.filter fun x => !p x).length : Int) = 0 ↔ (l.filter fun x => !p x) = [] := by
    rw [← List.length_eq_zero_iff]; omega
  rw [e, List.filter_eq_nil_iff]
  simp
theorem none_p (p : α → Bool) (l : List α) : decide (((l.filter p).length : Int) = 0) = !l.any p := by
  have := none_not (fun x => !p x) l
  simp only [Bool.not_not] at this
  rw [this, List.all_eq_not_any_not]
  simp
end
section
variable {α β γ : Type} {f : α → D} {g : β → D} {n m : Nat}
theorem okE_int (a : Int) : okE n (.int a) = true := by cases n <;> rfl
theorem okE_T {l : List α} (h : ∀ a ∈ l, okE n (f a) = true) (hl : l.length ≤ 1000000) : okE (n + 1) (eT f l) = true := by
  unfold eT
  simp only [okE, Bool.and_eq_true, decide_eq_true_eq, List.all_eq_true, List.length_map, List.mem_map]
  refine ⟨hl, ?_⟩
  rintro _ ⟨a, ha, rfl⟩
  exact h a ha
theorem eq_law {x y : D} (e : x = y) {n : Nat} (hn : n ≤ 50) (h : okE n x = true) : q_law_equal x y := ⟨e, n, hn, h⟩
end
theorem q_cell {ns : List Int} {k : Int} (h : 0 ≤ k) : q_law_cell ns k := by
  unfold q_law_cell
  intro q
  rw [decide_eq_true_eq] at q
  exact ⟨by omega, q⟩
theorem draws_of {c : Int} (n : Nat) (h : n ≤ 1000) : Draws (p_law_draws c (n : Int)) n := by
  have := (law_draws_spec (c := c) (n := (n : Int)) ⟨by omega, by omega⟩).1
  simpa using this
theorem Draws.get {ds : List Int} {n : Nat} (h : Draws ds n) {i : Int} (h0 : 0 ≤ i) (h1 : i < n) : 0 ≤ gtD ds i ∧ gtD ds i < 4096 := by
  have hr : InR ds i := ⟨by omega, by rw [h.1]; exact h1⟩
  have e := atI_some hr
  rw [atI_in h0] at e
  exact h.2 _ (List.mem_of_getElem? e)
theorem Draws.inr {ds : List Int} {n : Nat} (h : Draws ds n) {i : Int} (h0 : 0 ≤ i) (h1 : i < n) : InR ds i := ⟨by omega, by rw [h.1]; exact h1⟩
theorem gtD_nat {α : Type} [Inhabited α] {l : List α} {i : Int} (h0 : 0 ≤ i) (h1 : i < l.length) : gtD l i = l[i.toNat]'(by omega) := by
  unfold gtD
  rw [atI_in h0, List.getElem?_eq_getElem (by omega)]; rfl
theorem gtD_mem {α : Type} [Inhabited α] {l : List α} {i : Int} (h0 : 0 ≤ i) (h1 : i < l.length) : gtD l i ∈ l := by
  rw [gtD_nat h0 h1]; exact List.getElem_mem _
theorem pre_rng {pre post : List Int} {x : Int} {n : Nat} (h : pre ++ x :: post = rngI 0 n) : pre = rngI 0 pre.length ∧ x = (pre.length : Int) ∧ pre.length < n := by
  have hl : pre.length < n := by
    have := congrArg List.length h
    simp at this; omega
  have e1 : (rngI 0 n).take pre.length = pre := by rw [← h, List.take_left']; rfl
  have e2 : (rngI 0 n)[pre.length]? = some x := by rw [← h]; simp
  refine ⟨?_, ?_, hl⟩
  · rw [← e1]
    unfold rngI
    rw [← List.map_take, List.take_range, Nat.min_eq_left (by omega)]
    simp
  · unfold rngI at e2
    rw [List.getElem?_map, List.getElem?_range hl] at e2
    simp at e2; omega
def asIntL : List D → Option (List Int)
  | [] => some []
  | .int i :: ds => (asIntL ds).map (i :: ·)
  | _ :: _ => none
def asInts : D → Option (List Int)
  | .tuple ds => asIntL ds
  | _ => none
theorem asIntL_some : ∀ {ds : List D} {x : List Int}, asIntL ds = some x ↔ ds = x.map .int
  | [], x => by cases x <;> simp [asIntL]
  | .int i :: ds, x => by
    cases x with
    | nil => simp [asIntL]
    | cons j x =>
      have ih := asIntL_some (ds := ds) (x := x)
      simp only [asIntL, Option.map_eq_some_iff, List.map_cons, List.cons.injEq]
      constructor
      · rintro ⟨y, h, e1, e2⟩
        subst e1; subst e2
        exact ⟨rfl, asIntL_some.mp h⟩
      · rintro ⟨e1, e2⟩
        cases e1
        exact ⟨x, ih.mpr e2, rfl, rfl⟩
  | .none :: ds, x => by cases x <;> simp [asIntL]
  | .bool _ :: ds, x => by cases x <;> simp [asIntL]
  | .str _ :: ds, x => by cases x <;> simp [asIntL]
  | .list _ :: ds, x => by cases x <;> simp [asIntL]
  | .tuple _ :: ds, x => by cases x <;> simp [asIntL]
  | .dict _ :: ds, x => by cases x <;> simp [asIntL]
theorem asInts_some {d : D} {x : List Int} : asInts d = some x ↔ d = eT .int x := by
  cases d with
  | tuple ds => simp only [asInts, asIntL_some, eT, PyData.tuple.injEq]
  | _ => simp [asInts, eT]
@[simp] theorem asInts_T (x : List Int) : asInts (eT .int x) = some x := asInts_some.mpr rfl
@[simp] theorem dT_eA (ds : List D) : dT eA (.tuple ds) = ds := by
  unfold dT dS
  exact List.map_id' ds
def ascB (n : Int) (x : List Int) : Bool := decide (x.Pairwise (· < ·)) && x.all fun a => decide (0 ≤ a) && decide (a < n)
def itemsB (n : Int) (d : D) : Bool := match asInts d with
  | some x => ascB n x
  | none => false
@[simp] theorem itemsB_T (n : Int) (x : List Int) : itemsB n (eT .int x) = ascB n x := by unfold itemsB; rw [asInts_T]
def Rel (o : Ord) (a b : Int) : Prop := (a, b) ∈ o.2 ∨ (b, a) ∈ o.2
theorem Rel.symm {o : Ord} {a b : Int} (h : Rel o a b) : Rel o b a := Or.symm h
theorem top_above {m : Int} {o : Ord} (ok : OrderOk m o.1 o.2) (l : List Int) : ∀ (k : Nat) (a : Int), (l.filter fun c => decide ((a, c) ∈ o.2)).length ≤ k → a ∈ l → ∃ b ∈ l, (a = b ∨ (a, b) ∈ o.2) ∧ ∀ c ∈ l, (b, c) ∉ o.2
  | k, a, hk, ha => by
    by_cases h : ∃ c ∈ l, (a, c) ∈ o.2
    · obtain ⟨c, hc, hac⟩ := h
      have hlt : (l.filter fun d => decide ((c, d) ∈ o.2)).length < (l.filter fun d => decide ((a, d) ∈ o.2)).length := by
        have e : (l.filter fun d => decide ((c, d) ∈ o.2)) = ((l.filter fun d => decide ((a, d) ∈ o.2)).filter fun d => decide ((c, d) ∈ o.2)) := by
          rw [List.filter_filter]
          refine List.filter_congr fun d _ => ?_
          by_cases q : (c, d) ∈ o.2
          · simp [q, ok.trans _ _ _ hac q]
          · simp [q]
        rw [e]
        have hm : c ∈ l.filter fun d => decide ((a, d) ∈ o.2) := List.mem_filter.mpr ⟨hc, decide_eq_true hac⟩
        refine Nat.lt_of_le_of_ne (List.length_filter_le _ _) fun z => ?_
        have := List.length_filter_eq_length_iff.mp z c hm
        exact ok.irr (of_decide_eq_true this) rfl
      match k, hk with
      | 0, hk => omega
      | k + 1, hk =>
        obtain ⟨b, hb, h1, h2⟩ := top_above ok l k c (by omega) hc
        refine ⟨b, hb, .inr ?_, h2⟩
        rcases h1 with rfl | h1
        · exact hac
        · exact ok.trans _ _ _ hac h1
    · exact ⟨a, ha, .inl rfl, fun c hc q => h ⟨c, hc, q⟩⟩
theorem gtD_map {α β : Type} [Inhabited α] [Inhabited β] (f : α → β) {l : List α} {i : Int} (h0 : 0 ≤ i) (h1 : i < l.length) : gtD (l.map f) i = f (gtD l i) := by
  rw [gtD_nat h0 (by simpa using h1), gtD_nat h0 h1, List.getElem_map]
theorem ltE_T (x y : List Int) : ltE (eT .int) x y = decide (x < y) := by
  unfold ltE eT
  rw [PySem.W.dataLt_tuple]
  exact PySem.W.dataLt_ints x y
theorem dle_T (x y : List Int) : dle (eT .int) x y = true ↔ ¬ y < x := by
  rw [dle_eq, ltE_T]; simp
theorem dle_refl {α : Type} (f : α → D) (a : α) : dle f a a = true := (dle_tot f).refl a
theorem minT_go {α : Type} (f : α → D) : ∀ (xs : List α) (x : α), (xs.foldl (fun a y => if ltE f y a = true then y else a) x = x ∨ xs.foldl (fun a y => if ltE f y a = true then y else a) x ∈ xs) ∧ dle f (xs.foldl (fun a y => if ltE f y a = true then y else a) x) x = true ∧ ∀ y ∈ xs, dle f (xs.foldl (fun a y => if ltE f y a = true then y else a) x) y = true
  | [], x => ⟨.inl rfl, dle_refl f x, fun y h => by cases h⟩
  | z :: xs, x => by
    rw [List.foldl_cons]
    by_cases h : ltE f z x = true
    · rw [if_pos h]
      obtain ⟨h1, h2, h3⟩ := minT_go f xs z
      have hzx : dle f z x = true := by
        rcases (dle_tot f).total z x with q | q
        · exact q
        · rw [dle_eq, h] at q; cases q
      refine ⟨.inr (by rcases h1 with h1 | h1 <;> simp [h1]), (dle_tot f).trans _ _ _ h2 hzx, fun y hy => ?_⟩
      rcases List.mem_cons.mp hy with rfl | hy
      · exact h2
      · exact h3 y hy
    · rw [if_neg h]
      obtain ⟨h1, h2, h3⟩ := minT_go f xs x
      have hxz : dle f x z = true := by rw [dle_eq]; simp [Bool.eq_false_iff.mpr h]
      refine ⟨by rcases h1 with h1 | h1; exact .inl h1; exact .inr (by simp [h1]), h2, fun y hy => ?_⟩
      rcases List.mem_cons.mp hy with rfl | hy
      · exact (dle_tot f).trans _ _ _ h2 hxz
      · exact h3 y hy
theorem minT_spec {α : Type} [Inhabited α] (f : α → D) {l : List α} (h : l ≠ []) : minT f l ∈ l ∧ ∀ y ∈ l, dle f (minT f l) y = true := by
  cases l with
  | nil => exact absurd rfl h
  | cons x xs =>
    obtain ⟨h1, h2, h3⟩ := minT_go f xs x
    show xs.foldl _ x ∈ _ ∧ ∀ y ∈ _, dle f (xs.foldl _ x) y = true
    refine ⟨by rcases h1 with h1 | h1 <;> simp [h1], fun y hy => ?_⟩
    rcases List.mem_cons.mp hy with rfl | hy
    · exact h2
    · exact h3 y hy
theorem lt_irr (x : List Int) : ¬ x < x := List.lt_irrefl x
theorem lt_tr {x y z : List Int} (h : x < y) (h' : y < z) : x < z := List.lt_trans h h'
theorem lt_app (p : List Int) {x y : List Int} (h : x < y) : p ++ x < p ++ y := by
  induction p with
  | nil => exact h
  | cons a p ih => rw [List.cons_append, List.cons_append, List.cons_lt_cons_iff]; exact .inr ⟨rfl, ih⟩
theorem lt_fork (p : List Int) {a b : Int} (h : a < b) (s t : List Int) : p ++ a :: s < p ++ b :: t := lt_app p (List.cons_lt_cons_iff.mpr (.inl h))
theorem lt_same {x y : List Int} (h : x < y) : ∀ (hl : x.length = y.length) (s t : List Int), x ++ s < y ++ t := by
  induction x generalizing y with
  | nil =>
    intro hl s t
    cases y with
    | nil => exact absurd h (lt_irr _)
    | cons b y => simp at hl
  | cons a x ih =>
    intro hl s t
    cases y with
    | nil => simp at hl
    | cons b y =>
      rw [List.cons_append, List.cons_append, List.cons_lt_cons_iff]
      rcases List.cons_lt_cons_iff.mp h with h | ⟨h1, h2⟩
      · exact .inl h
      · exact .inr ⟨h1, ih h2 (by simpa using hl) s t⟩
theorem sorted_fork {p : List Int} {cs : List Int} (hc : cs.Pairwise (· < ·)) (F : Int → List (List Int)) (h1 : ∀ c ∈ cs, (F c).Pairwise (· < ·)) (h2 : ∀ c ∈ cs, ∀ r ∈ F c, ∃ s, r = p ++ c :: s) : (cs.flatMap F).Pairwise (· < ·) := by
  induction cs with
  | nil => exact .nil
  | cons c cs ih =>
    rw [List.pairwise_cons] at hc
    rw [List.flatMap_cons, List.pairwise_append]
    refine ⟨h1 c List.mem_cons_self, ih hc.2 (fun d hd => h1 d (List.mem_cons_of_mem _ hd)) fun d hd => h2 d (List.mem_cons_of_mem _ hd), fun x hx y hy => ?_⟩
    obtain ⟨s, rfl⟩ := h2 c List.mem_cons_self x hx
    obtain ⟨d, hd, hy⟩ := List.mem_flatMap.mp hy
    obtain ⟨t, rfl⟩ := h2 d (List.mem_cons_of_mem _ hd) y hy
    exact lt_fork p (hc.1 d hd) s t
theorem sorted_grow {rows : List (List Int)} {k : Nat} (hr : rows.Pairwise (· < ·)) (hl : ∀ r ∈ rows, r.length = k) (G : List Int → List Int) (hg : ∀ r ∈ rows, (G r).Pairwise (· < ·)) : (rows.flatMap fun r => (G r).map fun c => r ++ [c]).Pairwise (· < ·) := by
  induction rows with
  | nil => exact .nil
  | cons r rows ih =>
    rw [List.pairwise_cons] at hr
    rw [List.flatMap_cons, List.pairwise_append]
    refine ⟨?_, ih hr.2 (fun d hd => hl d (List.mem_cons_of_mem _ hd)) fun d hd => hg d (List.mem_cons_of_mem _ hd), fun x hx y hy => ?_⟩
    · rw [List.pairwise_map]
      exact (hg r List.mem_cons_self).imp fun h => lt_fork r h [] []
    · obtain ⟨c, _, rfl⟩ := List.mem_map.mp hx
      obtain ⟨r', hr', hy⟩ := List.mem_flatMap.mp hy
      obtain ⟨d, _, rfl⟩ := List.mem_map.mp hy
      exact lt_same (hr.1 r' hr') (by rw [hl r List.mem_cons_self, hl r' (List.mem_cons_of_mem _ hr')]) _ _
theorem lt_nodup {l : List (List Int)} (h : l.Pairwise (· < ·)) : l.Nodup := h.imp fun {a b} q => fun (z : a = b) => lt_irr b (by rw [z] at q; exact q)
theorem srt_lt {l : List (List Int)} (h : l.Pairwise (· < ·)) : srtBy (eT .int) l = l := srtBy_id kt_T (h.imp fun {a b} q => (dle_T a b).mpr fun z => lt_irr _ (lt_tr q z))
theorem lt_ext {l m : List (List Int)} (h1 : l.Pairwise (· < ·)) (h2 : m.Pairwise (· < ·)) (h : ∀ x, x ∈ l ↔ x ∈ m) : l = m := by
  refine sorted_perm_eq (r := fun a b => dle (eT .int) a b = true) (fun a b => dle_anti kt_T) (h1.imp fun {a b} q => (dle_T a b).mpr fun z => lt_irr _ (lt_tr q z)) (h2.imp fun {a b} q => (dle_T a b).mpr fun z => lt_irr _ (lt_tr q z)) ?_
  exact (List.perm_ext_iff_of_nodup (lt_nodup h1) (lt_nodup h2)).mpr h
structure Row (n : Int) (k : Nat) (x : List Int) : Prop where
  len : x.length = k
  nd : x.Nodup
  inn : ∀ a ∈ x, 0 ≤ a ∧ a < n
def nmStep (n : Int) (rows : List (List Int)) : List (List Int) := rows.flatMap fun r => ((rngI 0 n.toNat).filter fun c => !decide (c ∈ r)).map fun c => r ++ [c]
def nmRows (n : Int) : Nat → List (List Int)
  | 0 => [[]]
  | k + 1 => nmStep n (nmRows n k)
theorem snoc_of {α : Type} {x : List α} {k : Nat} (h : x.length = k + 1) : ∃ y a, x = y ++ [a] ∧ y.length = k := by
  have hne : x ≠ [] := fun z => by rw [z] at h; simp at h
  refine ⟨x.dropLast, x.getLast hne, (List.dropLast_concat_getLast hne).symm, by rw [List.length_dropLast]; omega⟩
theorem mem_nmRows (n : Int) : ∀ (k : Nat) (x : List Int), x ∈ nmRows n k ↔ Row n k x
  | 0, x => by
    show x ∈ [[]] ↔ _
    rw [List.mem_singleton]
    constructor
    · rintro rfl; exact ⟨rfl, .nil, fun a h => by cases h⟩
    · intro h; exact List.length_eq_zero_iff.mp h.len
  | k + 1, x => by
    unfold nmRows nmStep
    rw [List.mem_flatMap]
    constructor
    · rintro ⟨r, hr, hx⟩
      obtain ⟨c, hc, rfl⟩ := List.mem_map.mp hx
      have hr := (mem_nmRows n k r).mp hr
      rw [List.mem_filter, mem_rngI] at hc
      have hcr : c ∉ r := by simpa using hc.2
      refine ⟨by rw [List.length_append, hr.len]; rfl, ?_, fun a ha => ?_⟩
      · rw [List.nodup_append]
        refine ⟨hr.nd, by simp, fun a ha b hb => ?_⟩
        rw [List.mem_singleton] at hb; subst hb
        exact fun z => hcr (z ▸ ha)
      · rcases List.mem_append.mp ha with ha | ha
        · exact hr.inn a ha
        · rw [List.mem_singleton] at ha; subst ha; omega
    · intro h
      obtain ⟨y, a, rfl, hy⟩ := snoc_of h.len
      have hnd := List.nodup_append.mp h.nd
      refine ⟨y, (mem_nmRows n k y).mpr ⟨hy, hnd.1, fun b hb => h.inn b (by simp [hb])⟩, List.mem_map.mpr ⟨a, ?_, rfl⟩⟩
      have := h.inn a (by simp)
      rw [List.mem_filter, mem_rngI]
      refine ⟨by omega, ?_⟩
      have : a ∉ y := fun z => hnd.2.2 a z a (by simp) rfl
      simpa using this
theorem nmRows_len (n : Int) (k : Nat) : (nmRows n k).length ≤ n.toNat ^ k := by
  induction k with
  | zero => exact Nat.le_refl _
  | succ k ih =>
    have := flat_len (fun r => ((rngI 0 n.toNat).filter fun c => !decide (c ∈ r)).map fun c => r ++ [c]) n.toNat (nmRows n k) fun r _ => by
      rw [List.length_map]
      exact Nat.le_trans (List.length_filter_le _ _) (by simp)
    rw [Nat.pow_succ]
    exact Nat.le_trans this (Nat.mul_le_mul_right _ ih)
theorem row_onto {n : Int} {r : List Int} (h : Row n n.toNat r) {x : Int} (h1 : 0 ≤ x ∧ x < n) : ∃ i, (0 ≤ i ∧ i < n) ∧ gtD r i = x := by
  have hs : ∀ y ∈ rngI 0 n.toNat, y ∈ r := fun y hy => by
    refine Classical.byContradiction fun z => ?_
    have hnd : (y :: r).Nodup := List.nodup_cons.mpr ⟨z, h.nd⟩
    have := nodup_le hnd (m := rngI 0 n.toNat) fun a ha => by
      rcases List.mem_cons.mp ha with rfl | ha
      · exact hy
      · exact mem_rngI.mpr (by have := h.inn a ha; omega)
    rw [List.length_cons, rngI_len, h.len] at this
    omega
  have hx := hs x (mem_rngI.mpr (by omega))
  obtain ⟨k, hk, e⟩ := List.getElem_of_mem hx
  refine ⟨(k : Int), by have := h.len; omega, ?_⟩
  rw [gtD_nat (by omega) (by omega)]
  simpa using e
section
variable (cond : List Int → Int → Bool) (n : Int) (N : Nat)
def grow (rows : List (List Int)) : List (List Int) := rows.flatMap fun r => ((rngI 0 n.toNat).filter (cond r)).map fun c => r ++ [c]
def gr : Nat → List (List Int)
  | 0 => [[]]
  | k + 1 => grow cond n (gr k)
def GoodS : List Int → List Int → Prop
  | _, [] => True
  | p, c :: s => ((0 ≤ c ∧ c < n) ∧ cond p c = true) ∧ GoodS (p ++ [c]) s
def dl : Nat → List Int → List (List Int)
  | 0, _ => []
  | m + 1, p => if p.length = N then [p] else ((rngI 0 n.toNat).filter (cond p)).flatMap fun c => dl m (p ++ [c])
end
section
variable {cond : List Int → Int → Bool} {n : Int} {N : Nat}
theorem goodS_iff : ∀ {s p : List Int}, GoodS cond n p s ↔ ∀ q c t, s = q ++ c :: t → (0 ≤ c ∧ c < n) ∧ cond (p ++ q) c = true
  | [], p => by
    constructor
    · intro _ q c t h; simp at h
    · intro _; trivial
  | c :: s, p => by
    unfold GoodS
    rw [goodS_iff (s := s) (p := p ++ [c])]
    constructor
    · rintro ⟨h1, h2⟩ q d t e
      cases q with
      | nil => simp at e; obtain ⟨rfl, _⟩ := e; simpa using h1
      | cons b q =>
        simp at e
        obtain ⟨rfl, e⟩ := e
        have := h2 q d t e
        simpa using this
    · intro h
      refine ⟨by simpa using h [] c s rfl, fun q d t e => ?_⟩
      have := h (c :: q) d t (by rw [e]; rfl)
      simpa using this
theorem goodS_snoc {p s : List Int} {c : Int} : GoodS cond n p (s ++ [c]) ↔ GoodS cond n p s ∧ (0 ≤ c ∧ c < n) ∧ cond (p ++ s) c = true := by
  rw [goodS_iff, goodS_iff]
  constructor
  · intro h
    exact ⟨fun q d t e => h q d (t ++ [c]) (by rw [e]; simp), h s c [] rfl⟩
  · rintro ⟨h1, h2⟩ q d t e
    by_cases ht : t = []
    · subst ht
      have := List.append_inj e.symm (by have := congrArg List.length e; simp at this; omega)
      obtain ⟨rfl, e2⟩ := this
      simp at e2; subst e2; exact h2
    · obtain ⟨t', z, rfl⟩ : ∃ t' z, t = t' ++ [z] := ⟨_, _, (List.dropLast_concat_getLast ht).symm⟩
      have e' : s ++ [c] = (q ++ d :: t') ++ [z] := by rw [e]; simp
      have := List.append_inj' e' rfl
      exact h1 q d t' this.1
theorem mem_gr : ∀ (k : Nat) (x : List Int), x ∈ gr cond n k ↔ x.length = k ∧ GoodS cond n [] x
  | 0, x => by
    show x ∈ [[]] ↔ _
    rw [List.mem_singleton]
    constructor
    · rintro rfl; exact ⟨rfl, trivial⟩
    · intro h; exact List.length_eq_zero_iff.mp h.1
  | k + 1, x => by
    unfold gr grow
    rw [List.mem_flatMap]
    constructor
    · rintro ⟨r, hr, hx⟩
      obtain ⟨c, hc, rfl⟩ := List.mem_map.mp hx
      obtain ⟨h1, h2⟩ := (mem_gr k r).mp hr
      rw [List.mem_filter, mem_rngI] at hc
      exact ⟨by rw [List.length_append, h1]; rfl, goodS_snoc.mpr ⟨h2, by omega, hc.2⟩⟩
    · rintro ⟨h1, h2⟩
      obtain ⟨y, a, rfl, hy⟩ := snoc_of h1
      obtain ⟨h3, h4, h5⟩ := goodS_snoc.mp h2
      exact ⟨y, (mem_gr k y).mpr ⟨hy, h3⟩, List.mem_map.mpr ⟨a, List.mem_filter.mpr ⟨mem_rngI.mpr (by omega), h5⟩, rfl⟩⟩
theorem gr_sorted : ∀ k, (gr cond n k).Pairwise (· < ·)
  | 0 => List.pairwise_singleton _ _
  | k + 1 => sorted_grow (k := k) (gr_sorted k) (fun r hr => ((mem_gr k r).mp hr).1) _ fun r _ => (rngI_pairwise _).filter _
theorem gr_len (k : Nat) : (gr cond n k).length ≤ n.toNat ^ k := by
  induction k with
  | zero => exact Nat.le_refl _
  | succ k ih =>
    have := flat_len (fun r => ((rngI 0 n.toNat).filter (cond r)).map fun c => r ++ [c]) n.toNat (gr cond n k) fun r _ => by
      rw [List.length_map]
      exact Nat.le_trans (List.length_filter_le _ _) (by simp)
    rw [Nat.pow_succ]
    exact Nat.le_trans this (Nat.mul_le_mul_right _ ih)
theorem mem_dl : ∀ (m : Nat) (p r : List Int), p.length ≤ N → N - p.length < m → (r ∈ dl cond n N m p ↔ ∃ s, r = p ++ s ∧ r.length = N ∧ GoodS cond n p s)
  | 0, p, r, h1, h2 => by omega
  | m + 1, p, r, h1, h2 => by
    unfold dl
    by_cases h : p.length = N
    · rw [if_pos h, List.mem_singleton]
      constructor
      · rintro rfl; exact ⟨[], by simp, h, trivial⟩
      · rintro ⟨s, rfl, e, _⟩
        rw [List.length_append] at e
        have : s = [] := List.length_eq_zero_iff.mp (by omega)
        simp [this]
    · rw [if_neg h, List.mem_flatMap]
      constructor
      · rintro ⟨c, hc, hr⟩
        obtain ⟨s, rfl, e, g⟩ := (mem_dl m (p ++ [c]) r (by simp; omega) (by simp; omega)).mp hr
        rw [List.mem_filter, mem_rngI] at hc
        exact ⟨c :: s, by simp, e, ⟨by omega, hc.2⟩, g⟩
      · rintro ⟨s, rfl, e, g⟩
        cases s with
        | nil => simp at e; exact absurd e h
        | cons c s => exact ⟨c, List.mem_filter.mpr ⟨mem_rngI.mpr (by have := g.1.1; omega), g.1.2⟩, (mem_dl m (p ++ [c]) _ (by simp; omega) (by simp; omega)).mpr ⟨s, by simp, e, g.2⟩⟩
theorem dl_sorted : ∀ (m : Nat) (p : List Int), p.length ≤ N → N - p.length < m → (dl cond n N m p).Pairwise (· < ·)
  | 0, p, h1, h2 => by omega
  | m + 1, p, h1, h2 => by
    unfold dl
    by_cases h : p.length = N
    · rw [if_pos h]; exact List.pairwise_singleton _ _
    · rw [if_neg h]
      refine sorted_fork (p := p) ((rngI_pairwise _).filter _) _ (fun c _ => dl_sorted m (p ++ [c]) (by simp; omega) (by simp; omega)) fun c _ r hr => ?_
      obtain ⟨s, rfl, _, _⟩ := (mem_dl m (p ++ [c]) r (by simp; omega) (by simp; omega)).mp hr
      exact ⟨s, by simp⟩
theorem dl_eq {m : Nat} (h : N < m) : dl cond n N m [] = gr cond n N := by
  refine lt_ext (dl_sorted m [] (by simp) (by simpa using h)) (gr_sorted N) fun x => ?_
  rw [mem_dl m [] x (by simp) (by simpa using h), mem_gr]
  constructor
  · rintro ⟨s, rfl, e, g⟩; exact ⟨e, g⟩
  · rintro ⟨e, g⟩; exact ⟨x, rfl, e, g⟩
end
def asPr : D → Option (Int × Int)
  | .tuple [.int a, .int b] => some (a, b)
  | _ => none
theorem asPr_some {d : D} {p : Int × Int} : asPr d = some p ↔ d = eP p := by
  constructor
  · intro h
    unfold asPr at h
    split at h
    · cases h; rfl
    · cases h
  · rintro rfl; rfl
def asPrL : List D → Option (List (Int × Int))
  | [] => some []
  | d :: ds => match asPr d, asPrL ds with
    | some p, some l => some (p :: l)
    | _, _ => none
def asPrs : D → Option (List (Int × Int))
  | .tuple ds => asPrL ds
  | _ => none
theorem asPrL_some : ∀ {ds : List D} {l : List (Int × Int)}, asPrL ds = some l ↔ ds = l.map eP
  | [], l => by cases l <;> simp [asPrL]
  | d :: ds, l => by
    unfold asPrL
    cases h : asPr d with
    | none =>
      simp only [reduceCtorEq, false_iff]
      intro e
      cases l with
      | nil => simp at e
      | cons p l =>
        rw [List.map_cons, List.cons.injEq] at e
        rw [asPr_some.mpr e.1] at h; cases h
    | some p =>
      have hp := asPr_some.mp h
      cases h2 : asPrL ds with
      | none =>
        simp only [reduceCtorEq, false_iff]
        intro e
        cases l with
        | nil => simp at e
        | cons q l =>
          rw [List.map_cons, List.cons.injEq] at e
          rw [asPrL_some.mpr e.2] at h2; cases h2
      | some m =>
        have hm := asPrL_some.mp h2
        simp only [Option.some.injEq]
        constructor
        · rintro rfl; rw [hp, hm]; rfl
        · intro e
          cases l with
          | nil => simp at e
          | cons q l =>
            rw [List.map_cons, List.cons.injEq] at e
            have e1 := asPr_some.mpr e.1
            rw [h] at e1
            have e2 := asPrL_some.mpr e.2
            rw [h2] at e2
            cases e1; cases e2; rfl
theorem asPrs_some {d : D} {l : List (Int × Int)} : asPrs d = some l ↔ d = eT eP l := by
  cases d with
  | tuple ds => simp only [asPrs, asPrL_some, eT, PyData.tuple.injEq]
  | _ => simp [asPrs, eT]
@[simp] theorem asPrs_T (l : List (Int × Int)) : asPrs (eT eP l) = some l := asPrs_some.mpr rfl
instance (p q : Int × Int) : Decidable (plt p q) := by unfold plt; exact inferInstance
structure GraphOk (m n : Int) (ps : List (Int × Int)) : Prop where
  n1 : 1 ≤ n
  n2 : n ≤ m
  m8 : m ≤ 8
  up : ∀ p ∈ ps, 0 ≤ p.1 ∧ p.1 < p.2 ∧ p.2 < n
  sorted : ps.Pairwise plt
theorem GraphOk.sub {m n : Int} {ps qs : List (Int × Int)} (h : GraphOk m n ps) (s : qs.Sublist ps) : GraphOk m n qs := ⟨h.n1, h.n2, h.m8, fun p hp => h.up p (s.subset hp), h.sorted.sublist s⟩
theorem nodup_mapOn {α β : Type} {f : α → β} {l : List α} (h : l.Nodup) (hf : ∀ a ∈ l, ∀ b ∈ l, f a = f b → a = b) : (l.map f).Nodup := by
  unfold List.Nodup at *
  rw [List.pairwise_map]
  exact h.imp_of_mem fun ha hb q e => q (hf _ ha _ hb e)
theorem ltE_int (a b : Int) : ltE PyData.int a b = decide (a < b) := by
  unfold ltE
  exact PySem.W.dataLt_int a b
def rk (o : Ord) (k : Nat) : List Int := (rngI 0 k).foldl (p_o_ranks_L o) (p_o_ranks_found o)
theorem dle_int {a b : Int} : dle PyData.int a b = true ↔ a ≤ b := by
  rw [dle_eq, ltE_int]; simp
theorem turned_ok {m : Int} {o : Ord} (ok : OrderOk m o.1 o.2) : OrderOk m (p_o_turned o).1 (p_o_turned o).2 := by
  have e : (p_o_turned o).2 = turnedL o.2 := rfl
  rw [e]
  refine ⟨ok.n1, ok.n2, ok.m8, ?_, ?_, ?_, srtBy_strict ?_⟩
  · rintro ⟨a, b⟩ h
    have := ok.inn _ (mem_turnedL.mp h)
    show 0 ≤ a ∧ a < o.1 ∧ 0 ≤ b ∧ b < o.1
    simp only at this; omega
  · intro a b h h'
    exact ok.asym _ _ (mem_turnedL.mp h) (mem_turnedL.mp h')
  · intro a b c h h'
    exact mem_turnedL.mpr (ok.trans _ _ _ (mem_turnedL.mp h') (mem_turnedL.mp h))
  · exact nodup_mapOn (sorted_nodup ok.sorted) fun p _ q _ e => by
      have e1 := congrArg Prod.fst e
      have e2 := congrArg Prod.snd e
      exact Prod.ext e2 e1
theorem mem_turned {o : Ord} {a b : Int} : (a, b) ∈ (p_o_turned o).2 ↔ (b, a) ∈ o.2 := mem_turnedL
structure RowP (n : Int) (r : List Int) : Prop where
  nd : r.Nodup
  inn : ∀ a ∈ r, 0 ≤ a ∧ a < n
structure LineP (o : Ord) (r : List Int) : Prop where
  row : RowP o.1 r
  len : (r.length : Int) = o.1
  up : ∀ p ∈ o.2, r.idxOf p.1 < r.idxOf p.2
theorem row_full {n : Int} {r : List Int} (h : RowP n r) (hl : (r.length : Int) = n) {a : Int} (h0 : 0 ≤ a) (h1 : a < n) : a ∈ r := by
  have row : Row n n.toNat r := ⟨by omega, h.nd, h.inn⟩
  obtain ⟨i, hi, e⟩ := row_onto row ⟨h0, h1⟩
  rw [← e]
  exact gtD_mem hi.1 (by omega)
def lcond (o : Ord) (p : List Int) (c : Int) : Bool := !decide (c ∈ p) && o.2.all fun q => !decide (q.2 = c) || decide (q.1 ∈ p)
theorem lcond_iff {o : Ord} {p : List Int} {c : Int} : lcond o p c = true ↔ c ∉ p ∧ ∀ b, (b, c) ∈ o.2 → b ∈ p := by
  unfold lcond
  simp only [Bool.and_eq_true, Bool.not_eq_true', decide_eq_false_iff_not, List.all_eq_true, Bool.or_eq_true, decide_eq_true_eq]
  constructor
  · rintro ⟨h1, h2⟩
    refine ⟨h1, fun b hb => ?_⟩
    rcases h2 (b, c) hb with h | h
    · exact absurd rfl h
    · exact h
  · rintro ⟨h1, h2⟩
    refine ⟨h1, fun q hq => ?_⟩
    by_cases e : q.2 = c
    · exact .inr (h2 q.1 (by rw [← e]; exact hq))
    · exact .inl e
abbrev Begun (o : Ord) (s : List Int) : Prop := GoodS (lcond o) o.1 [] s
theorem begun_snoc {o : Ord} {s : List Int} {c : Int} : Begun o (s ++ [c]) ↔ Begun o s ∧ (0 ≤ c ∧ c < o.1) ∧ lcond o s c = true := by
  have := goodS_snoc (cond := lcond o) (n := o.1) (p := []) (s := s) (c := c)
  simpa using this
theorem begun_row {o : Ord} {s : List Int} (h : Begun o s) : RowP o.1 s := by
  have key := goodS_iff.mp h
  constructor
  · rw [List.nodup_iff_pairwise_ne, List.pairwise_iff_getElem]
    intro i j hi hj hij e
    have := (key (s.take j) s[j] (s.drop (j + 1)) (by simp)).2
    have h2 := (lcond_iff.mp this).1
    simp only [List.nil_append] at h2
    refine h2 (List.mem_take_iff_getElem.mpr ⟨i, by omega, e⟩)
  · intro a ha
    obtain ⟨q, t, e⟩ := List.append_of_mem ha
    exact (key q a t e).1
theorem begun_low {o : Ord} {s : List Int} (h : Begun o s) {q t : List Int} {c b : Int} (e : s = q ++ c :: t) (hb : (b, c) ∈ o.2) : b ∈ q := by
  have := (goodS_iff.mp h q c t e).2
  simpa using (lcond_iff.mp this).2 b hb
theorem idx_lt {s : List Int} (hn : s.Nodup) {a b : Int} : (a ∈ s ∧ b ∈ s ∧ s.idxOf a < s.idxOf b) ↔ ∃ q t, s = q ++ b :: t ∧ a ∈ q := by
  constructor
  · rintro ⟨ha, hb, hlt⟩
    have h1 := List.idxOf_lt_length_of_mem hb
    have h0 := List.idxOf_lt_length_of_mem ha
    refine ⟨s.take (s.idxOf b), s.drop (s.idxOf b + 1), ?_, ?_⟩
    · have e := List.getElem_idxOf h1
      have := List.take_append_drop (s.idxOf b) s
      rw [List.drop_eq_getElem_cons h1, e] at this
      exact this.symm
    · exact List.mem_take_iff_getElem.mpr ⟨s.idxOf a, by omega, List.getElem_idxOf h0⟩
  · rintro ⟨q, t, rfl, ha⟩
    rw [List.nodup_append] at hn
    have hb : b ∉ q := fun z => hn.2.2 b z b (by simp) rfl
    refine ⟨by simp [ha], by simp, ?_⟩
    rw [List.idxOf_append, if_pos ha, List.idxOf_append, if_neg hb]
    have := List.idxOf_lt_length_of_mem ha
    omega
theorem begun_line {o : Ord} {s : List Int} (h : Begun o s) (hl : (s.length : Int) = o.1) {m : Int} (ok : OrderOk m o.1 o.2) : LineP o s := by
  refine ⟨begun_row h, hl, ?_⟩
  rintro ⟨a, b⟩ hab
  have hi := ok.inn _ hab
  have hb := row_full (begun_row h) hl hi.2.2.1 hi.2.2.2
  obtain ⟨q, t, e⟩ := List.append_of_mem hb
  exact ((idx_lt (begun_row h).nd).mpr ⟨q, t, e, begun_low h e hab⟩).2.2
theorem line_begun {o : Ord} {s : List Int} (h : LineP o s) {m : Int} (ok : OrderOk m o.1 o.2) : Begun o s := by
  refine goodS_iff.mpr fun q c t e => ?_
  have hc : c ∈ s := by rw [e]; simp
  refine ⟨h.row.inn c hc, lcond_iff.mpr ⟨?_, fun b hb => ?_⟩⟩
  · have := h.row.nd
    rw [e, List.nodup_append] at this
    intro z
    exact this.2.2 c (by simpa using z) c (by simp) rfl
  · have hi := ok.inn _ hb
    have hbs := row_full h.row h.len hi.1 hi.2.1
    have hlt := h.up _ hb
    obtain ⟨q', t', e', hq'⟩ := (idx_lt h.row.nd).mp ⟨hbs, hc, hlt⟩
    have : q = q' := by
      have h1 : q.length = s.idxOf c := by
        have hn := h.row.nd
        rw [e, List.nodup_append] at hn
        rw [e, List.idxOf_append, if_neg (fun z => hn.2.2 c z c (by simp) rfl)]; simp
      have h2 : q'.length = s.idxOf c := by
        have hn := h.row.nd
        rw [e', List.nodup_append] at hn
        rw [e', List.idxOf_append, if_neg (fun z => hn.2.2 c z c (by simp) rfl)]; simp
      have := List.append_inj (e.symm.trans e') (by omega)
      exact this.1
    simpa [this] using hq'
theorem begun_more {m : Int} {o : Ord} (ok : OrderOk m o.1 o.2) {s : List Int} (hs : Begun o s) (hl : (s.length : Int) < o.1) : ∃ c, (0 ≤ c ∧ c < o.1) ∧ lcond o s c = true := by
  have hex : ∃ a, a ∈ (rngI 0 o.1.toNat).filter fun a => !decide (a ∈ s) := by
    apply Classical.byContradiction
    intro hn
    have hsub : ∀ a ∈ rngI 0 o.1.toNat, a ∈ s := fun a ha => by
      apply Classical.byContradiction
      intro z
      exact hn ⟨a, List.mem_filter.mpr ⟨ha, by simp [z]⟩⟩
    have := nodup_le (rngI_nodup _) hsub
    simp at this; omega
  obtain ⟨a, ha⟩ := hex
  obtain ⟨c, hc, _, hmin⟩ := top_above (turned_ok ok) _ _ a (Nat.le_refl _) ha
  have hc' := List.mem_filter.mp hc
  have hr := mem_rngI.mp hc'.1
  refine ⟨c, by omega, lcond_iff.mpr ⟨by simpa using hc'.2, fun b hb => ?_⟩⟩
  apply Classical.byContradiction
  intro hns
  have hi := ok.inn _ hb
  refine hmin b (List.mem_filter.mpr ⟨mem_rngI.mpr (by omega), by simp [hns]⟩) ?_
  exact mem_turned.mpr hb
theorem lines_fold (o : Ord) (r : List Int) : ∀ (l : List Int) (s : List (List Int)), l.foldl (p_law_lines_L o r) s = s ++ (l.filter (lcond o r)).map fun c => r ++ [c] := by
  have e : ∀ x s3, p_law_lines_L o r s3 x = if lcond o r x = true then s3 ++ [r ++ [x]] else s3 := fun x s3 => by
    unfold p_law_lines_L
    have : ((!decide (x ∈ r)) && (decide ((((o.2.filter fun q : Int × Int => (decide (q.2 = x)) && (!decide (q.1 ∈ r))).map fun q : Int × Int => q.1).length : Int) = 0))) = lcond o r x := by
      rw [List.length_map, none_p]
      unfold lcond
      congr 1
      rw [Bool.eq_iff_iff, Bool.not_eq_true', List.any_eq_false, List.all_eq_true]
      refine forall_congr' fun q => imp_congr_right fun _ => ?_
      by_cases e : q.2 = x <;> simp [e]
    rw [this]
  intro l
  induction l with
  | nil => intro s; simp
  | cons x l ih =>
    intro s
    rw [List.foldl_cons, e, ih, List.filter_cons]
    split <;> simp
theorem lines_step (o : Ord) (r : List Int) (s : List (List Int)) : p_law_lines_rmore o r s = s ++ ((rngI 0 o.1.toNat).filter (lcond o r)).map fun c => r ++ [c] := lines_fold o r _ s
theorem lines_foldL (o : Ord) (l : List (List Int)) (s : List (List Int)) : l.foldl (p_law_lines_L' o) s = s ++ grow (lcond o) o.1 l := by
  have : p_law_lines_L' o = fun (s2 : List (List Int)) x2 => s2 ++ ((rngI 0 o.1.toNat).filter (lcond o x2)).map fun c => x2 ++ [c] := by
    funext s2 x2; exact lines_step o x2 s2
  rw [this, foldl_app_flat]; rfl
theorem lines_grow (o : Ord) (s : List (List Int)) : p_law_lines_rmore' o s = grow (lcond o) o.1 s := by
  unfold p_law_lines_rmore' p_law_lines_L' grow
  have : (fun (s2 : List (List Int)) x2 => p_law_lines_rmore o x2 s2) = fun s2 x2 => s2 ++ ((rngI 0 o.1.toNat).filter (lcond o x2)).map fun c => x2 ++ [c] := by
    funext s2 x2; exact lines_step o x2 s2
  rw [this, foldl_app_flat]; rfl
theorem lines_pre (o : Ord) (l : List Int) : l.foldl (p_law_lines_L'' o) [[]] = gr (lcond o) o.1 l.length := by
  have : ∀ (l : List Int) (k : Nat), l.foldl (p_law_lines_L'' o) (gr (lcond o) o.1 k) = gr (lcond o) o.1 (k + l.length) := by
    intro l
    induction l with
    | nil => intro k; rfl
    | cons x l ih =>
      intro k
      rw [List.foldl_cons]
      have : p_law_lines_L'' o (gr (lcond o) o.1 k) x = gr (lcond o) o.1 (k + 1) := lines_grow o _
      rw [this, ih, List.length_cons]; congr 1; omega
  have := this l 0
  rw [Nat.zero_add] at this
  exact this
theorem law_lines_gr (o : Ord) : p_law_lines o = gr (lcond o) o.1 o.1.toNat := by
  unfold p_law_lines p_law_lines_rrows
  rw [lines_pre]; simp
theorem mem_law_lines {m : Int} {o : Ord} (ok : OrderOk m o.1 o.2) {r : List Int} : r ∈ p_law_lines o ↔ LineP o r := by
  have k1 := ok.n1
  rw [law_lines_gr, mem_gr]
  constructor
  · rintro ⟨h1, h2⟩; exact begun_line h2 (by omega) ok
  · intro h; exact ⟨by have := h.len; omega, line_begun h ok⟩
theorem law_lines_sorted (o : Ord) : (p_law_lines o).Pairwise (· < ·) := by rw [law_lines_gr]; exact gr_sorted _
theorem gr_few {o : Ord} {k : Nat} (hn : o.1 ≤ 8) : (gr (lcond o) o.1 k).length ≤ (nmRows o.1 k).length := by
  refine nodup_le (lt_nodup (gr_sorted k)) fun x hx => ?_
  obtain ⟨h1, h2⟩ := mem_gr k x |>.mp hx
  have := begun_row h2
  exact (mem_nmRows o.1 k x).mpr ⟨h1, this.nd, this.inn⟩
theorem pow_le7 {n : Int} (hn : n ≤ 7) {k : Nat} (hk : k ≤ 7) : n.toNat ^ k ≤ 823543 := by
  have h1 : n.toNat ^ k ≤ 7 ^ k := Nat.pow_le_pow_left (by omega) k
  have h2 : 7 ^ k ≤ 7 ^ 7 := Nat.pow_le_pow_right (by omega) hk
  have : 7 ^ 7 = 823543 := by decide
  omega
theorem q_law_lines_ok {m : Int} {o : Ord} (ok : OrderOk m o.1 o.2) (h7 : o.1 ≤ 7) : q_law_lines o := by
  have k1 := ok.n1
  refine ⟨by omega, fun pre1 x1 post1 s1 e1 es1 pre2 r post2 s2 e2 es2 => ⟨by omega, fun pre3 c post3 s3 e3 es3 _ => ?_⟩⟩
  obtain ⟨_, _, hlt⟩ := pre_rng e1
  rw [lines_pre] at es1
  have hr : r ∈ gr (lcond o) o.1 pre1.length := by rw [← es1, ← e2]; simp
  have hl := (mem_gr _ _).mp hr
  have hrow := begun_row hl.2
  refine ⟨by simp; omega, ?_⟩
  have hg : (gr (lcond o) o.1 (pre1.length + 1)).length ≤ 823543 := by
    refine Nat.le_trans (gr_few (by omega)) (Nat.le_trans (nmRows_len _ _) (pow_le7 h7 (by omega)))
  have hs : gr (lcond o) o.1 (pre1.length + 1) = grow (lcond o) o.1 pre2 ++ (((rngI 0 o.1.toNat).filter (lcond o r)).map (fun c => r ++ [c]) ++ grow (lcond o) o.1 post2) := by
    show grow (lcond o) o.1 (gr (lcond o) o.1 pre1.length) = _
    rw [← es1, ← e2]
    unfold grow
    rw [List.flatMap_append, List.flatMap_cons]
  rw [lines_foldL, List.nil_append] at es2
  rw [lines_fold] at es3
  have h3 : (pre3.filter (lcond o r)).length ≤ ((rngI 0 o.1.toNat).filter (lcond o r)).length := by
    rw [← e3, List.filter_append, List.length_append]; omega
  rw [hs, List.length_append, List.length_append, List.length_map] at hg
  rw [es3, es2, List.length_append, List.length_map]
  omega
theorem law_lines_ne {m : Int} {o : Ord} (ok : OrderOk m o.1 o.2) : 0 < (p_law_lines o).length := by
  have k1 := ok.n1
  have : ∀ k : Nat, (k : Int) ≤ o.1 → ∃ s, s.length = k ∧ Begun o s := by
    intro k
    induction k with
    | zero => intro _; exact ⟨[], rfl, trivial⟩
    | succ k ih =>
      intro hk
      obtain ⟨s, h1, h2⟩ := ih (by omega)
      obtain ⟨c, hc, hl⟩ := begun_more ok h2 (by omega)
      exact ⟨s ++ [c], by simp [h1], begun_snoc.mpr ⟨h2, hc, hl⟩⟩
  obtain ⟨s, h1, h2⟩ := this o.1.toNat (by omega)
  exact List.length_pos_of_mem ((mem_law_lines ok).mpr (begun_line h2 (by omega) ok))
abbrev eOr : (Int × List (Int × Int)) → D := eT2 PyData.int (eT (eT2 PyData.int PyData.int))
theorem seq_nx {A B : SEx} {ρ ρ1 : En} (h : A ρ = some (.nx, ρ1)) : sSeq A B ρ = B ρ1 := by unfold sSeq; rw [h]; rfl
section
variable {mm : Int} {o : Ord} (ok : OrderOk mm o.1 o.2)
include ok
theorem free_lcond (r : List Int) : p_o_free_items o r = (rngI 0 o.1.toNat).filter (lcond o r) := by
  unfold p_o_free_items p_o_free_items_items
  rw [List.filter_filter]
  refine List.filter_congr fun a _ => ?_
  rw [Bool.eq_iff_iff, lcond_iff]
  simp only [Bool.and_eq_true, Bool.not_eq_true', decide_eq_false_iff_not, List.all_eq_true, decide_eq_true_eq]
  refine and_comm.trans (and_congr Iff.rfl ?_)
  unfold p_o_under
  constructor
  · intro h b hb
    have := ok.inn _ hb
    exact h b (List.mem_filter.mpr ⟨mem_rngI.mpr (by simp only at this; omega), decide_eq_true hb⟩)
  · intro h b hb
    exact h b (of_decide_eq_true (List.mem_filter.mp hb).2)
theorem q_freeI (r : List Int) : q_o_free_items o r := by
  have := ok.n1; have := ok.n2; have := ok.m8
  exact ⟨by omega, fun x _ => by unfold q_o_under; omega⟩
end
section
variable {T : Tab} [HasF T "add_lines" f_o_add_lines] [HasF T "free_items" f_o_free_items] [HasF T "under" f_o_under] {mm : Int} {o : Ord} (ok : OrderOk mm o.1 o.2)
include ok
theorem add_run : ∀ (m : Nat) (p : List Int), p.Nodup → (∀ x ∈ p, 0 ≤ x ∧ x < o.1) → p.length ≤ o.1.toNat → o.1.toNat - p.length < m → ∀ fs : List (List Int), fs.length + (dl (lcond o) o.1 o.1.toNat m p).length < sizeLine → ∀ k, m + 2 ≤ k →
    callF T k (Str.ofString "add_lines") [.v (eOr o), .v (eT PyData.int p), .o true (.l (fs.map (eT PyData.int)))] = some (.ok (.v .none) [.v (eOr o), .v (eT PyData.int p), .o true (.l ((fs ++ dl (lcond o) o.1 o.1.toNat m p).map (eT PyData.int)))]) := by
  have n1 := ok.n1
  intro m
  induction m with
  | zero => intro p _ _ h1 h2; omega
  | succ m ih =>
    intro p hn hi h1 h2 fs hf k hk
    obtain ⟨k, rfl⟩ : ∃ k', k = k' + 1 := ⟨k - 1, by omega⟩
    rw [callF_eq (HasF.e (T := T) (x := "add_lines") (d := f_o_add_lines)), runFn_eq rfl rfl]
    have m8 := ok.m8; have n2 := ok.n2
    let X : List (List Int) → Sl → En := fun s j => [.v (eOr o), .v (eT PyData.int p), .o true (.l (s.map (eT PyData.int))), j]
    have ht : ∀ s, TV (tb (x2 (gEq false) (x1 gLen (xv 1)) (x2 gIx (xv 0) (xc (.int 0))))) (X s .un) (decide ((p.length : Int) = o.1)) := fun s =>
      tv_b (ex_2 (EX.ev (ex_1 (EX.ev (ex_v (i := 1) rfl)) (wo_lenT p))) (EX.ev (ex_2 (EX.ev (ex_v (i := 0) rfl)) (EX.ev ex_c) (by rfl))) (wo_eq eq_int dp_int _ _))
    have step1 : ∀ s : List (List Int), s.length < sizeLine → sIf (tb (x2 (gEq false) (x1 gLen (xv 1)) (x2 gIx (xv 0) (xc (.int 0))))) (sExp (xapp 2 (xv 1))) sNil (X s .un) = some (.nx, X (if p.length = o.1.toNat then s ++ [p] else s) .un) := fun s hs => by
      have := ht s
      unfold TV at this
      unfold sIf
      rw [this, Option.bind_some]
      by_cases e : p.length = o.1.toNat
      · rw [decide_eq_true (by omega), if_pos e]
        simp only [if_true]
        show ((if (s.map (eT PyData.int)).length < sizeLine then some (XV.v .none, [Sl.v (eOr o), .v (eT PyData.int p), .o true (.l (s.map (eT PyData.int) ++ [eT PyData.int p])), .un]) else none).map fun p => (Fl.nx, p.2)) = _
        rw [List.length_map, if_pos hs]
        show some (Fl.nx, [Sl.v (eOr o), .v (eT PyData.int p), .o true (.l (s.map (eT PyData.int) ++ [eT PyData.int p])), .un]) = some (Fl.nx, [Sl.v (eOr o), .v (eT PyData.int p), .o true (.l ((s ++ [p]).map (eT PyData.int))), .un])
        rw [List.map_append]; rfl
      · rw [decide_eq_false (by omega), if_neg e]
        simp only [Bool.false_eq_true, if_false]
        rfl
    have hfl : fs.length < sizeLine := by omega
    -- the loop
    have hIT : ∀ s, IT (ival (xcall (callF T k) (Str.ofString "free_items") (acons (xv 0) (acons (xv 1) anil)))) (X s .un) ((p_o_free_items o p).map PyData.int) none := fun s =>
      it_f (ef_call (AV.ac (av_cons (EX.ew (ex_v (i := 0) rfl)) (av_cons (EX.ew (ex_v (i := 1) rfl)) av_nil))) (r_o_free_items o p (q_freeI ok p) (k := k) (by omega)))
    have fl := free_lcond ok p
    have loop : ∀ s : List (List Int), (p.length < o.1.toNat → s = fs) → ∃ ρ', sFor (ival (xcall (callF T k) (Str.ofString "free_items") (acons (xv 0) (acons (xv 1) anil)))) (setV 3) (f_o_add_lines_L1 (callF T k)) (X s .un) = some (.nx, ρ') ∧
        ∃ j, ρ' = X (s ++ (p_o_free_items o p).flatMap fun a => dl (lcond o) o.1 o.1.toNat m (p ++ [a])) j := fun s hs => by
      obtain ⟨ρ', e1, e2⟩ := sFor_nx (enc := PyData.int) (tg := setV 3) (body := f_o_add_lines_L1 (callF T k)) (fun s ρ => ∃ j, okSet j = true ∧ ρ = X s j) (fun s a => s ++ dl (lcond o) o.1 o.1.toNat m (p ++ [a])) s (p_o_free_items o p) (hIT s) ⟨.un, rfl, rfl⟩ (fun pre a post s1 ρ he hs1 hI => by
        obtain ⟨j, oj, rfl⟩ := hI
        have ha : a ∈ p_o_free_items o p := by rw [← he]; simp
        rw [fl, List.mem_filter, mem_rngI, lcond_iff] at ha
        have hlt : p.length < o.1.toNat := by
          refine Nat.lt_of_le_of_ne h1 fun e => ha.2.1 ?_
          refine Classical.byContradiction fun h => ?_
          have := nodup_le (l := a :: p) (m := rngI 0 o.1.toNat) (List.nodup_cons.mpr ⟨h, hn⟩) fun y hy => by
            rw [mem_rngI]
            rcases List.mem_cons.mp hy with rfl | hy
            · omega
            · have := hi y hy; omega
          rw [List.length_cons, rngI_len] at this
          omega
        have es := hs hlt
        subst es
        refine ⟨X s1 (.v (.int a)), X (s1 ++ dl (lcond o) o.1 o.1.toNat m (p ++ [a])) (.v (.int a)), tg_v (s := j) rfl oj, ?_, .v (.int a), rfl, rfl⟩
        have hd : (dl (lcond o) o.1 o.1.toNat (m + 1) p) = (p_o_free_items o p).flatMap fun a => dl (lcond o) o.1 o.1.toNat m (p ++ [a]) := by
          conv => lhs; unfold dl
          rw [if_neg (by omega), fl]
        have hc := ih (p ++ [a]) (by
          rw [List.nodup_append]
          exact ⟨hn, by simp, fun x h b hb e => by rw [List.mem_singleton] at hb; subst hb; subst e; exact ha.2.1 h⟩) (fun x hx => (List.mem_append.mp hx).elim (hi x) fun h => by rw [List.mem_singleton.mp h]; omega) (by simp; omega) (by simp; omega) s1 (by
          rw [hs1, foldl_flat, List.length_append]
          rw [hd, ← he, List.flatMap_append, List.flatMap_cons, List.length_append, List.length_append] at hf
          omega) k (by omega)
        have hx : EX (x2 gAdd (xv 1) (xtup (acons (xv 3) anil))) (X s1 (.v (.int a))) (eT PyData.int (p ++ [a])) :=
          ex_2 (EX.ev (ex_v (i := 1) rfl)) (EX.ev (ex_tup (av_cons (EX.ew (ex_v (i := 3) rfl)) av_nil))) (wo_addT' (f := PyData.int) (l := p) (m := [a]) (by show p.length + 1 ≤ 1000000; omega))
        unfold f_o_add_lines_L1 sExp
        show ((xcall (callF T k) (Str.ofString "add_lines") (acons (xv 0) (acons (x2 gAdd (xv 1) (xtup (acons (xv 3) anil))) (acons (xv 2) anil))) (X s1 (.v (.int a)))).map _) = _
        have hcall : xcall (callF T k) (Str.ofString "add_lines") (acons (xv 0) (acons (x2 gAdd (xv 1) (xtup (acons (xv 3) anil))) (acons (xv 2) anil))) (X s1 (.v (.int a))) = some (.v .none, X (s1 ++ dl (lcond o) o.1 o.1.toNat m (p ++ [a])) (.v (.int a))) := by
          have hA : acons (xv 0) (acons (x2 gAdd (xv 1) (xtup (acons (xv 3) anil))) (acons (xv 2) anil)) (X s1 (.v (.int a))) = some ([.v (eOr o), .v (eT PyData.int (p ++ [a])), .sl 2], X s1 (.v (.int a))) :=
            acons_eq rfl rfl (acons_eq (stl_v hx) rfl (acons_eq rfl rfl rfl))
          unfold xcall
          rw [hA]
          show (match callF T k (Str.ofString "add_lines") [.v (eOr o), .v (eT PyData.int (p ++ [a])), .o true (.l (s1.map (eT PyData.int)))] with
            | some (.ok z outs) => match z with
              | .v d => some (XV.v d, back (X s1 (.v (.int a))) [.v (eOr o), .v (eT PyData.int (p ++ [a])), .sl 2] outs)
              | .fr ct => some (.fr ct, back (X s1 (.v (.int a))) [.v (eOr o), .v (eT PyData.int (p ++ [a])), .sl 2] outs)
              | .sl _ => none
            | _ => none) = _
          rw [hc]
          rfl
        rw [hcall]; rfl)
      obtain ⟨j, _, e2⟩ := e2
      rw [foldl_flat] at e2
      exact ⟨ρ', e1, j, e2⟩
    have body : (sSeq (sIf (tb (x2 (gEq false) (x1 gLen (xv 1)) (x2 gIx (xv 0) (xc (.int 0))))) (sExp (xapp 2 (xv 1))) sNil) (sFor (ival (xcall (callF T k) (Str.ofString "free_items") (acons (xv 0) (acons (xv 1) anil)))) (setV 3) (f_o_add_lines_L1 (callF T k)))) (X fs .un) = (sFor (ival (xcall (callF T k) (Str.ofString "free_items") (acons (xv 0) (acons (xv 1) anil)))) (setV 3) (f_o_add_lines_L1 (callF T k))) (X (if p.length = o.1.toNat then fs ++ [p] else fs) .un) := seq_nx (step1 fs hfl)
    obtain ⟨ρ', e1, j, e2⟩ := loop (if p.length = o.1.toNat then fs ++ [p] else fs) (fun h => if_neg (by omega))
    show ((sSeq _ _ (X fs .un)).bind _) = _
    rw [body, e1, e2]
    have final : (if p.length = o.1.toNat then fs ++ [p] else fs) ++ ((p_o_free_items o p).flatMap fun a => dl (lcond o) o.1 o.1.toNat m (p ++ [a])) = fs ++ dl (lcond o) o.1 o.1.toNat (m + 1) p := by
      conv => rhs; unfold dl
      by_cases e : p.length = o.1.toNat
      · rw [if_pos e, if_pos e]
        have : p_o_free_items o p = [] := by
          rw [fl, List.filter_eq_nil_iff]
          intro a ha h
          have ha := mem_rngI.mp ha
          refine (lcond_iff.mp h).1 (Classical.byContradiction fun h => ?_)
          have := nodup_le (l := a :: p) (m := rngI 0 o.1.toNat) (List.nodup_cons.mpr ⟨h, hn⟩) fun y hy => by
            rw [mem_rngI]
            rcases List.mem_cons.mp hy with rfl | hy
            · omega
            · have := hi y hy; omega
          rw [List.length_cons, rngI_len] at this
          omega
        rw [this]; simp
      · rw [if_neg e, if_neg e, fl]
    rw [final]
    rfl
end
def p_o_lines (o : Ord) : List (List Int) := gr (lcond o) o.1 o.1.toNat
def q_o_lines (o : Ord) : Prop := (∃ m, OrderOk m o.1 o.2) ∧ o.1 ≤ 7
theorem r_o_lines {T : Tab} [HasF T "lines" f_o_lines] [HasF T "add_lines" f_o_add_lines] [HasF T "free_items" f_o_free_items] [HasF T "under" f_o_under] (v_order : (Int × List ((Int × Int)))) (hq : q_o_lines v_order) {k : Nat} (hk : 12 ≤ k) :
    callF T k (Str.ofString "lines") [.v ((eT2 PyData.int (eT (eT2 PyData.int PyData.int))) v_order)] = some (.ok ((rxF (eT PyData.int)) (p_o_lines v_order)) [.v ((eT2 PyData.int (eT (eT2 PyData.int PyData.int))) v_order)]) := by
  obtain ⟨⟨m, ok⟩, h7⟩ := hq
  have n1 := ok.n1
  obtain ⟨k, rfl⟩ : ∃ k', k = k' + 1 := ⟨k - 1, by omega⟩
  have hd : dl (lcond v_order) v_order.1 v_order.1.toNat (v_order.1.toNat + 1) [] = p_o_lines v_order := dl_eq (by omega)
  have hl : (p_o_lines v_order).length ≤ 823543 := by
    refine Nat.le_trans (gr_len _) ?_
    have h1 : v_order.1.toNat ^ v_order.1.toNat ≤ 7 ^ v_order.1.toNat := Nat.pow_le_pow_left (by omega) _
    have h2 : 7 ^ v_order.1.toNat ≤ 7 ^ 7 := Nat.pow_le_pow_right (by omega) (by omega)
    have : 7 ^ 7 = 823543 := by decide
    omega
  have e := add_run (T := T) ok (v_order.1.toNat + 1) [] .nil (fun x h => nomatch h) (by simp) (by simp) [] (by rw [hd]; unfold sizeLine; simp; omega) k (by omega)
  rw [hd, List.nil_append] at e
  rw [callF_eq (HasF.e (T := T) (x := "lines") (d := f_o_lines)), runFn_eq rfl rfl]
  have e2 : sExp (xcall (callF T k) (Str.ofString "add_lines") (acons (xv 0) (acons (xtup anil) (acons (xv 1) anil)))) [.v (eOr v_order), .o false (.l [])] = some (.nx, [.v (eOr v_order), .o false (.l ((p_o_lines v_order).map (eT PyData.int)))]) := by
    unfold sExp
    show ((match callF T k (Str.ofString "add_lines") [.v (eOr v_order), .v (eT PyData.int []), .o true (.l ([].map (eT PyData.int)))] with
            | some (.ok z outs) => match z with
              | .v d => some (XV.v d, back [.v (eOr v_order), .o false (.l [])] [.v (eOr v_order), .v (eT PyData.int []), .sl 1] outs)
              | .fr ct => some (.fr ct, back [.v (eOr v_order), .o false (.l [])] [.v (eOr v_order), .v (eT PyData.int []), .sl 1] outs)
              | .sl _ => none
            | _ => none).map fun (p : XV × En) => (Fl.nx, p.2)) = _
    rw [e]
    rfl
  show ((sSeq (sSetO 1 (xlst anil)) (sSeq (sExp (xcall (callF T k) (Str.ofString "add_lines") (acons (xv 0) (acons (xtup anil) (acons (xv 1) anil))))) (sRet (xv 1))) [.v (eOr v_order), .un]).bind _) = _
  rw [seq_nx (ρ1 := [.v (eOr v_order), .o false (.l [])]) rfl, seq_nx e2]
  rfl
noncomputable section
def p_o_calm_line (v_order : (Int × List ((Int × Int)))) : List (Int) := (argK (fun (x1 : List (Int)) => (eT2 PyData.int (eT PyData.int)) ((p_o_jumps v_order x1), x1)) (p_o_lines v_order))
def q_o_calm_line (v_order : (Int × List ((Int × Int)))) : Prop := (q_o_lines v_order) ∧ (∀ x1 ∈ (p_o_lines v_order), (q_o_jumps v_order x1)) ∧ ((p_o_lines v_order) ≠ [])
theorem r_o_calm_line {T : Tab} [HasF T "calm_line" f_o_calm_line] [HasF T "lines" f_o_lines] [HasF T "add_lines" f_o_add_lines] [HasF T "free_items" f_o_free_items] [HasF T "under" f_o_under] [HasF T "jumps" f_o_jumps] (v_order : (Int × List ((Int × Int)))) (hq : q_o_calm_line v_order) {k : Nat} (hk : 13 ≤ k) : callF T k (Str.ofString "calm_line") [.v ((eT2 PyData.int (eT (eT2 PyData.int PyData.int))) v_order)] = some (.ok ((rxV (eT PyData.int)) (p_o_calm_line v_order)) [.v ((eT2 PyData.int (eT (eT2 PyData.int PyData.int))) v_order)]) := by
  obtain ⟨k, rfl⟩ : ∃ k', k = k' + 1 := ⟨k - 1, by omega⟩
  unfold q_o_calm_line at hq
  rw [callF_eq (HasF.e (T := T) (x := "calm_line") (d := f_o_calm_line))]
  exact fn_run (rx := (rxV (eT PyData.int))) rfl rfl (sj_tail
  (sj_retX (ex_minKey (enc := (eT PyData.int)) (l := (p_o_lines v_order)) (al_2 al_int (al_T al_int)) nn_2 (dp_2 dp_int (dp_T dp_int)) (fun (x1 : List (Int)) => ((p_o_jumps v_order x1), x1)) (ef_call (AV.ac (av_cons (EX.ew (ex_v (i := 0) rfl)) av_nil)) (r_o_lines v_order hq.1 (k := k) (by omega))) hq.2.2 (by show 1 < 2; decide) (fun x1 hx1 => ⟨[.v ((eT2 PyData.int (eT (eT2 PyData.int PyData.int))) v_order), .v ((eT PyData.int) x1)], rfl, (ex_tup (av_cons (EX.ew (ex_call (AV.ac (av_cons (EX.ew (ex_v (i := 0) rfl)) (av_cons (EX.ew (ex_v (i := 1) rfl)) av_nil))) (r_o_jumps v_order x1 (hq.2.1 x1 hx1) (k := k) (by omega)))) (av_cons (EX.ew (ex_v (i := 1) rfl)) av_nil)))⟩)) (.inl rfl)))
end
def f_o_law_c1 (C : Calls) : Ex := xlc [6] (irng1 (x2 gSub (x1 gLen (xv 5)) (xc (.int 1)))) (setV 6) (tb (x2 (gIn true) (xtup (acons (x2 gIx (xv 5) (xv 6)) (acons (x2 gIx (xv 5) (x2 gAdd (xv 6) (xc (.int 1)))) (anil)))) (x2 gIx (xv 2) (xc (.int 1))))) (xv 6)
def f_o_law_L1 (C : Calls) : SEx := sExp (xapp 4 (x1 gLen (f_o_law_c1 C)))
def f_o_law_L2 (C : Calls) : SEx := sSeq (sSet 7 (x2 gMod (x2 gIx (xv 1) (x2 gAdd (xc (.int 41)) (xv 6))) (x1 gLen (xv 3))))
  (sIf (tNot (tt (xcall C (Str.ofString "_law_equal") (acons (xcall C (Str.ofString "jumps") (acons (xv 2) (acons (x2 gIx (xv 3) (xv 7)) (anil)))) (acons (x2 gIx (xv 4) (xv 7)) (anil)))))) (sRet (xc (.bool false))) (sNil))
def f_o_law : FnD := ⟨1, 8, fun C => sSeq (sSet 1 (xcall C (Str.ofString "_law_draws") (acons (xcall C (Str.ofString "_law_cell") (acons (xv 0) (acons (xc (.int 0)) (anil)))) (acons (xc (.int 60)) (anil)))))
  (sSeq (sSet 2 (xcall C (Str.ofString "_law_order") (acons (xv 1) (acons (xc (.int 6)) (anil)))))
  (sSeq (sSet 3 (x1 gSort (xcall C (Str.ofString "_law_lines") (acons (xv 2) (anil)))))
  (sSeq (sSetO 4 (xlst (anil)))
  (sSeq (sFor (ival (xv 3)) (setV 5) (f_o_law_L1 C))
  (sSeq (sFor (irng1 (xc (.int 8))) (setV 6) (f_o_law_L2 C))
  (sRet (xcall C (Str.ofString "_law_equal") (acons (xcall C (Str.ofString "calm_line") (acons (xv 2) (anil))) (acons (x2 gIx (xv 3) (xidx (xv 4) (x1 (gBst PySem.W.minD) (xv 4)))) (anil))))))))))⟩
abbrev Bn : List Str := [(Str.ofString "all"), (Str.ofString "bool"), (Str.ofString "dict"), (Str.ofString "int"), (Str.ofString "isinstance"), (Str.ofString "len"), (Str.ofString "list"), (Str.ofString "min"), (Str.ofString "range"), (Str.ofString "sorted"), (Str.ofString "str"), (Str.ofString "tuple")]
abbrev Fns : List Str := [(Str.ofString "under"), (Str.ofString "free_items"), (Str.ofString "add_lines"), (Str.ofString "lines"), (Str.ofString "jumps"), (Str.ofString "calm_line"), (Str.ofString "_law_cell"), (Str.ofString "_law_draws"), (Str.ofString "_law_kind"), (Str.ofString "_law_equal"), (Str.ofString "_law_closed"), (Str.ofString "_law_names"), (Str.ofString "_law_special"), (Str.ofString "_law_order"), (Str.ofString "_law_lines"), (Str.ofString "law")]
def topS (i : Nat) : Stmt := PySem.Challenge.pw_orderwise_k16_jumps_and_calm_lines.main.body.getD i (.Pass ⟨0, 0, 0, 0⟩)
abbrev s_o_under : Stmt := topS 1
theorem sc_o_under : FnScope ["order", "a", "item"] ["order", "a"] (defScope s_o_under) := ⟨rfl, rfl, rfl, by decide +kernel, rfl, by decide +kernel, by decide +kernel⟩
theorem d_o_under {g : Gb} {k : Nat} {C : Calls} (hB : ∀ x, Bn.contains x = true → g.mg x = none) (hC : ∀ x, Fns.contains x = true → FnIn g k C x) : SSs k ⟨g, ["order", "a", "item"], defScope s_o_under, fun _ => true, true, none⟩ (defBody s_o_under) (f_o_under.body C) :=
  (sss_one (ss_ret (se_tuple1 rfl (hB _ rfl) (se_lc (own := [((Str.ofString "item"), 2)]) (si_rng1 rfl (hB _ rfl) (se_ix (se_v 0 rfl (vis_of rfl)) se_int)) (by rfl) (sg_name 2 rfl (by first | exact Or.inl rfl | exact Or.inr rfl) (by first | exact Or.inl rfl | exact Or.inr rfl)) (by decide) (sts_one (st_cm co_in (se_tup (sa_cons (se_v 2 rfl (vis_of rfl)) (sa_cons (se_v 1 rfl (vis_of rfl)) sa_nil))) (se_ix (se_v 0 rfl (vis_of rfl)) se_int))) (se_v 2 rfl (vis_of rfl))))))

abbrev s_o_free_items : Stmt := topS 3
theorem sc_o_free_items : FnScope ["order", "done", "items", "a", "b"] ["order", "done"] (defScope s_o_free_items) := ⟨rfl, rfl, rfl, by decide +kernel, rfl, by decide +kernel, by decide +kernel⟩
theorem d_o_free_items {g : Gb} {k : Nat} {C : Calls} (hB : ∀ x, Bn.contains x = true → g.mg x = none) (hC : ∀ x, Fns.contains x = true → FnIn g k C x) : SSs k ⟨g, ["order", "done", "items", "a", "b"], defScope s_o_free_items, fun _ => true, true, none⟩ (defBody s_o_free_items) (f_o_free_items.body C) :=
  (sss_cons (ss_setLc (own := [((Str.ofString "a"), 3)]) 2 rfl (inPl (by rfl) (by rfl) (by rfl)) (si_rng1 rfl (hB _ rfl) (se_ix (se_v 0 rfl (vis_of rfl)) se_int)) (by rfl) (by rfl) (sg_name 3 rfl (by first | exact Or.inl rfl | exact Or.inr rfl) (by first | exact Or.inl rfl | exact Or.inr rfl)) (by decide) (sts_one (st_cm co_notIn (se_v 3 rfl (vis_of rfl)) (se_v 1 rfl (vis_of rfl)))) (se_v 3 rfl (vis_of rfl)))
  (sss_one (ss_ret (se_lc (own := [((Str.ofString "a"), 3)]) (si_val (se_v 2 rfl (vis_of rfl))) (by rfl) (sg_name 3 rfl (by first | exact Or.inl rfl | exact Or.inr rfl) (by first | exact Or.inl rfl | exact Or.inr rfl)) (by decide) (sts_one (st_val (se_all rfl (hB _ rfl) (se_lc (own := [((Str.ofString "b"), 4)]) (si_val (se_call (hC _ rfl) rfl (sa_cons (se_v 0 rfl (vis_of rfl)) (sa_cons (se_v 3 rfl (vis_of rfl)) sa_nil)))) (by rfl) (sg_name 4 rfl (by first | exact Or.inl rfl | exact Or.inr rfl) (by first | exact Or.inl rfl | exact Or.inr rfl)) (by decide) sts_nil (se_cm co_in (se_v 4 rfl (vis_of rfl)) (se_v 1 rfl (vis_of rfl))))))) (se_v 3 rfl (vis_of rfl))))))

abbrev s_o_add_lines : Stmt := topS 4
theorem sc_o_add_lines : FnScope ["order", "begun", "found", "a"] ["order", "begun", "found"] (defScope s_o_add_lines) := ⟨rfl, rfl, rfl, by decide +kernel, rfl, by decide +kernel, by decide +kernel⟩
theorem d_o_add_lines {g : Gb} {k : Nat} {C : Calls} (hB : ∀ x, Bn.contains x = true → g.mg x = none) (hC : ∀ x, Fns.contains x = true → FnIn g k C x) : SSs k ⟨g, ["order", "begun", "found", "a"], defScope s_o_add_lines, fun _ => true, true, none⟩ (defBody s_o_add_lines) (f_o_add_lines.body C) :=
  (sss_cons (ss_if (st_cm co_eq (se_len rfl (hB _ rfl) (se_v 1 rfl (vis_of rfl))) (se_ix (se_v 0 rfl (vis_of rfl)) se_int)) (sss_one (ss_expr (se_app 2 rfl (vis_of rfl) (se_v 1 rfl (vis_of rfl))))) sss_nil)
  (sss_one (ss_for (si_val (se_call (hC _ rfl) rfl (sa_cons (se_v 0 rfl (vis_of rfl)) (sa_cons (se_v 1 rfl (vis_of rfl)) sa_nil)))) (sg_name 3 rfl (by first | exact Or.inl rfl | exact Or.inr rfl) (by first | exact Or.inl rfl | exact Or.inr rfl)) (sss_one (ss_expr (se_call (hC _ rfl) rfl (sa_cons (se_v 0 rfl (vis_of rfl)) (sa_cons (se_add (se_v 1 rfl (vis_of rfl)) (se_tup (sa_cons (se_v 3 rfl (vis_of rfl)) sa_nil))) (sa_cons (se_v 2 rfl (vis_of rfl)) sa_nil)))))))))

abbrev s_o_lines : Stmt := topS 5
theorem sc_o_lines : FnScope ["order", "found"] ["order"] (defScope s_o_lines) := ⟨rfl, rfl, rfl, by decide +kernel, rfl, by decide +kernel, by decide +kernel⟩
theorem d_o_lines {g : Gb} {k : Nat} {C : Calls} (hB : ∀ x, Bn.contains x = true → g.mg x = none) (hC : ∀ x, Fns.contains x = true → FnIn g k C x) : SSs k ⟨g, ["order", "found"], defScope s_o_lines, fun _ => true, true, none⟩ (defBody s_o_lines) (f_o_lines.body C) :=
  (sss_cons (ss_setO 1 rfl (by first | exact Or.inl rfl | exact Or.inr rfl) (by first | exact Or.inl rfl | exact Or.inr rfl) (se_lst sa_nil) ⟨fun _ _ => rfl⟩)
  (sss_cons (ss_expr (se_call (hC _ rfl) rfl (sa_cons (se_v 0 rfl (vis_of rfl)) (sa_cons (se_tup sa_nil) (sa_cons (se_v 1 rfl (vis_of rfl)) sa_nil)))))
  (sss_one (ss_ret (se_v 1 rfl (vis_of rfl))))))

abbrev s_o_jumps : Stmt := topS 6
theorem sc_o_jumps : FnScope ["order", "line", "k"] ["order", "line"] (defScope s_o_jumps) := ⟨rfl, rfl, rfl, by decide +kernel, rfl, by decide +kernel, by decide +kernel⟩
theorem d_o_jumps {g : Gb} {k : Nat} {C : Calls} (hB : ∀ x, Bn.contains x = true → g.mg x = none) (hC : ∀ x, Fns.contains x = true → FnIn g k C x) : SSs k ⟨g, ["order", "line", "k"], defScope s_o_jumps, fun _ => true, true, none⟩ (defBody s_o_jumps) (f_o_jumps.body C) :=
  (sss_one (ss_ret (se_len rfl (hB _ rfl) (se_lc (own := [((Str.ofString "k"), 2)]) (si_rng1 rfl (hB _ rfl) (se_sub (se_len rfl (hB _ rfl) (se_v 1 rfl (vis_of rfl))) se_int)) (by rfl) (sg_name 2 rfl (by first | exact Or.inl rfl | exact Or.inr rfl) (by first | exact Or.inl rfl | exact Or.inr rfl)) (by decide) (sts_one (st_cm co_notIn (se_tup (sa_cons (se_ix (se_v 1 rfl (vis_of rfl)) (se_v 2 rfl (vis_of rfl))) (sa_cons (se_ix (se_v 1 rfl (vis_of rfl)) (se_add (se_v 2 rfl (vis_of rfl)) se_int)) sa_nil))) (se_ix (se_v 0 rfl (vis_of rfl)) se_int))) (se_v 2 rfl (vis_of rfl))))))

abbrev s_o_calm_line : Stmt := topS 7
theorem sc_o_calm_line : FnScope ["order", "line"] ["order"] (defScope s_o_calm_line) := ⟨rfl, rfl, rfl, by decide +kernel, rfl, by decide +kernel, by decide +kernel⟩
theorem d_o_calm_line {g : Gb} {k : Nat} {C : Calls} (hB : ∀ x, Bn.contains x = true → g.mg x = none) (hC : ∀ x, Fns.contains x = true → FnIn g k C x) {P : Addr} (hlT : (P, (Str.ofString "calm_line.<locals>.<lambda>")) ∈ g.T) (hlU : ∀ p ∈ g.T, p.1 = P → p.2 = (Str.ofString "calm_line.<locals>.<lambda>")) : SSs k ⟨g, ["order", "line"], defScope s_o_calm_line, fun _ => true, true, some (P, (Str.ofString "calm_line.<locals>.<lambda>"))⟩ (defBody s_o_calm_line) (f_o_calm_line.body C) :=
  (sss_one (ss_ret (se_minKey (y := "line") (iy := 1) (lamP_by rfl fun _ _ _ _ _ _ _ => rfl) rfl hlT hlU rfl (hB _ rfl) (se_call (hC _ rfl) rfl (sa_cons (se_v 0 rfl (vis_of rfl)) sa_nil)) (se_tup (sa_cons (se_call (hC _ rfl) rfl (sa_cons (se_v 0 rfl (vis_of rfl)) (sa_cons (se_v 1 rfl (vis_of rfl)) sa_nil))) (sa_cons (se_v 1 rfl (vis_of rfl)) sa_nil))))))

abbrev s_law_cell : Stmt := topS 9
theorem sc_law_cell : FnScope ["script", "k"] ["script", "k"] (defScope s_law_cell) := ⟨rfl, rfl, rfl, by decide +kernel, rfl, by decide +kernel, by decide +kernel⟩
theorem d_law_cell {g : Gb} {k : Nat} {C : Calls} (hB : ∀ x, Bn.contains x = true → g.mg x = none) (hC : ∀ x, Fns.contains x = true → FnIn g k C x) : SSs k ⟨g, ["script", "k"], defScope s_law_cell, fun _ => true, true, none⟩ (defBody s_law_cell) (f_law_cell.body C) :=
  (sss_cons (ss_if (st_cm co_lt (se_v 1 rfl (vis_of rfl)) (se_lenS 0 rfl (hB _ rfl) rfl (vis_of rfl))) (sss_one (ss_ret (se_sc 0 rfl (vis_of rfl) (se_v 1 rfl (vis_of rfl))))) sss_nil)
  (sss_one (ss_ret se_int)))

abbrev s_law_draws : Stmt := topS 10
theorem sc_law_draws : FnScope ["cell", "amount", "rows", "left", "k", "mixed"] ["cell", "amount"] (defScope s_law_draws) := ⟨rfl, rfl, rfl, by decide +kernel, rfl, by decide +kernel, by decide +kernel⟩
theorem d_law_draws {g : Gb} {k : Nat} {C : Calls} (hB : ∀ x, Bn.contains x = true → g.mg x = none) (hC : ∀ x, Fns.contains x = true → FnIn g k C x) : SSs k ⟨g, ["cell", "amount", "rows", "left", "k", "mixed"], defScope s_law_draws, fun _ => true, true, none⟩ (defBody s_law_draws) (f_law_draws.body C) :=
  (sss_cons (ss_setO 2 rfl (by first | exact Or.inl rfl | exact Or.inr rfl) (by first | exact Or.inl rfl | exact Or.inr rfl) (se_lst sa_nil) ⟨fun _ _ => rfl⟩)
  (sss_cons (ss_set 3 rfl (by first | exact Or.inl rfl | exact Or.inr rfl) (by first | exact Or.inl rfl | exact Or.inr rfl) (se_v 0 rfl (vis_of rfl)) ⟨fun _ _ => rfl⟩)
  (sss_cons (ss_for (si_rng1 rfl (hB _ rfl) (se_v 1 rfl (vis_of rfl))) (sg_name 4 rfl (by first | exact Or.inl rfl | exact Or.inr rfl) (by first | exact Or.inl rfl | exact Or.inr rfl)) (sss_one (ss_if (SW.st (sw_and (st_cm co_ge (se_v 0 rfl (vis_of rfl)) (se_pow se_int se_int)) (sw_and1 (st_cm co_gt (se_v 3 rfl (vis_of rfl)) se_int)))) (sss_cons (ss_expr (se_app 2 rfl (vis_of rfl) (se_mod (se_int1 rfl (hB _ rfl) (se_v 3 rfl (vis_of rfl))) se_int)))
  (sss_one (ss_set 3 rfl (by first | exact Or.inl rfl | exact Or.inr rfl) (by first | exact Or.inl rfl | exact Or.inr rfl) (se_fdiv (se_v 3 rfl (vis_of rfl)) se_int) ⟨fun _ _ => rfl⟩))) (sss_cons (ss_set 5 rfl (by first | exact Or.inl rfl | exact Or.inr rfl) (by first | exact Or.inl rfl | exact Or.inr rfl) (se_mod (se_int1 rfl (hB _ rfl) (se_add (se_mul (se_v 0 rfl (vis_of rfl)) se_int) (se_mul (se_add (se_v 4 rfl (vis_of rfl)) se_int) se_int))) se_int) ⟨fun _ _ => rfl⟩)
  (sss_cons (ss_set 5 rfl (by first | exact Or.inl rfl | exact Or.inr rfl) (by first | exact Or.inl rfl | exact Or.inr rfl) (se_mod (se_int1 rfl (hB _ rfl) (se_add (se_add (se_mul (se_v 5 rfl (vis_of rfl)) (se_v 5 rfl (vis_of rfl))) (se_mul (se_v 5 rfl (vis_of rfl)) se_int)) (se_mul (se_v 4 rfl (vis_of rfl)) se_int))) se_int) ⟨fun _ _ => rfl⟩)
  (sss_cons (ss_set 5 rfl (by first | exact Or.inl rfl | exact Or.inr rfl) (by first | exact Or.inl rfl | exact Or.inr rfl) (se_mod (se_int1 rfl (hB _ rfl) (se_add (se_add (se_mul (se_v 5 rfl (vis_of rfl)) (se_v 5 rfl (vis_of rfl))) (se_v 0 rfl (vis_of rfl))) (se_mul se_int (se_v 4 rfl (vis_of rfl))))) se_int) ⟨fun _ _ => rfl⟩)
  (sss_one (ss_expr (se_app 2 rfl (vis_of rfl) (se_mod (se_fdiv (se_v 5 rfl (vis_of rfl)) se_int) se_int))))))))))
  (sss_one (ss_ret (se_v 2 rfl (vis_of rfl)))))))

abbrev s_law_kind : Stmt := topS 11
theorem sc_law_kind : FnScope ["x"] ["x"] (defScope s_law_kind) := ⟨rfl, rfl, rfl, by decide +kernel, rfl, by decide +kernel, by decide +kernel⟩
theorem d_law_kind {g : Gb} {k : Nat} {C : Calls} (hB : ∀ x, Bn.contains x = true → g.mg x = none) (hC : ∀ x, Fns.contains x = true → FnIn g k C x) : SSs k ⟨g, ["x"], defScope s_law_kind, fun _ => true, true, none⟩ (defBody s_law_kind) (f_law_kind.body C) :=
  (sss_cons (ss_if (st_val (se_isi .bool rfl rfl (hB _ rfl) rfl (hB _ rfl) (by decide +kernel) (se_v 0 rfl (vis_of rfl)))) (sss_one (ss_ret se_int)) sss_nil)
  (sss_cons (ss_if (st_val (se_isi .int rfl rfl (hB _ rfl) rfl (hB _ rfl) (by decide +kernel) (se_v 0 rfl (vis_of rfl)))) (sss_one (ss_ret se_int)) sss_nil)
  (sss_cons (ss_if (st_val (se_isi .str rfl rfl (hB _ rfl) rfl (hB _ rfl) (by decide +kernel) (se_v 0 rfl (vis_of rfl)))) (sss_one (ss_ret se_int)) sss_nil)
  (sss_cons (ss_if (st_val (se_isi .tuple rfl rfl (hB _ rfl) rfl (hB _ rfl) (by decide +kernel) (se_v 0 rfl (vis_of rfl)))) (sss_one (ss_ret se_int)) sss_nil)
  (sss_cons (ss_if (st_val (se_isi .list rfl rfl (hB _ rfl) rfl (hB _ rfl) (by decide +kernel) (se_v 0 rfl (vis_of rfl)))) (sss_one (ss_ret se_int)) sss_nil)
  (sss_cons (ss_if (st_val (se_isi .dict rfl rfl (hB _ rfl) rfl (hB _ rfl) (by decide +kernel) (se_v 0 rfl (vis_of rfl)))) (sss_one (ss_ret se_int)) sss_nil)
  (sss_one (ss_ret se_int))))))))

abbrev s_law_equal : Stmt := topS 12
theorem sc_law_equal : FnScope ["x", "due", "key", "k", "other"] ["x", "due"] (defScope s_law_equal) := ⟨rfl, rfl, rfl, by decide +kernel, rfl, by decide +kernel, by decide +kernel⟩
theorem d_law_equal {g : Gb} {k : Nat} {C : Calls} (hB : ∀ x, Bn.contains x = true → g.mg x = none) (hC : ∀ x, Fns.contains x = true → FnIn g k C x) : SSs k ⟨g, ["x", "due", "key", "k", "other"], defScope s_law_equal, fun _ => true, true, none⟩ (defBody s_law_equal) (f_law_equal.body C) :=
  (sss_cons (ss_if (st_cm co_ne (se_call (hC _ rfl) rfl (sa_cons (se_v 0 rfl (vis_of rfl)) sa_nil)) (se_call (hC _ rfl) rfl (sa_cons (se_v 1 rfl (vis_of rfl)) sa_nil))) (sss_one (ss_ret se_bl)) sss_nil)
  (sss_cons (ss_if (SW.st (sw_or (st_val (se_isi .tuple rfl rfl (hB _ rfl) rfl (hB _ rfl) (by decide +kernel) (se_v 1 rfl (vis_of rfl)))) (sw_or1 (st_val (se_isi .list rfl rfl (hB _ rfl) rfl (hB _ rfl) (by decide +kernel) (se_v 1 rfl (vis_of rfl))))))) (sss_cons (ss_if (st_cm co_ne (se_len rfl (hB _ rfl) (se_v 0 rfl (vis_of rfl))) (se_len rfl (hB _ rfl) (se_v 1 rfl (vis_of rfl)))) (sss_one (ss_ret se_bl)) sss_nil)
  (sss_one (ss_ret (se_cm co_eq (se_len rfl (hB _ rfl) (se_lc (own := [((Str.ofString "k"), 3)]) (si_rng1 rfl (hB _ rfl) (se_len rfl (hB _ rfl) (se_v 1 rfl (vis_of rfl)))) (by rfl) (sg_name 3 rfl (by first | exact Or.inl rfl | exact Or.inr rfl) (by first | exact Or.inl rfl | exact Or.inr rfl)) (by decide) (sts_one (st_not (st_val (se_call (hC _ rfl) rfl (sa_cons (se_ix (se_v 0 rfl (vis_of rfl)) (se_v 3 rfl (vis_of rfl))) (sa_cons (se_ix (se_v 1 rfl (vis_of rfl)) (se_v 3 rfl (vis_of rfl))) sa_nil)))))) (se_v 3 rfl (vis_of rfl)))) se_int)))) sss_nil)
  (sss_cons (ss_if (st_val (se_isi .dict rfl rfl (hB _ rfl) rfl (hB _ rfl) (by decide +kernel) (se_v 1 rfl (vis_of rfl)))) (sss_cons (ss_if (st_cm co_ne (se_len rfl (hB _ rfl) (se_v 0 rfl (vis_of rfl))) (se_len rfl (hB _ rfl) (se_v 1 rfl (vis_of rfl)))) (sss_one (ss_ret se_bl)) sss_nil)
  (sss_cons (ss_for (si_val (se_v 0 rfl (vis_of rfl))) (sg_name 2 rfl (by first | exact Or.inl rfl | exact Or.inr rfl) (by first | exact Or.inl rfl | exact Or.inr rfl)) (sss_cons (ss_if (SW.st (sw_or (st_cm co_notIn (se_v 2 rfl (vis_of rfl)) (se_v 1 rfl (vis_of rfl))) (sw_or1 (st_not (st_val (se_call (hC _ rfl) rfl (sa_cons (se_ix (se_v 0 rfl (vis_of rfl)) (se_v 2 rfl (vis_of rfl))) (sa_cons (se_ix (se_v 1 rfl (vis_of rfl)) (se_v 2 rfl (vis_of rfl))) sa_nil)))))))) (sss_one (ss_ret se_bl)) sss_nil)
  (sss_one (ss_if (st_cm co_eq (se_len rfl (hB _ rfl) (se_lc (own := [((Str.ofString "other"), 4)]) (si_val (se_v 1 rfl (vis_of rfl))) (by rfl) (sg_name 4 rfl (by first | exact Or.inl rfl | exact Or.inr rfl) (by first | exact Or.inl rfl | exact Or.inr rfl)) (by decide) (sts_one (SW.st (sw_and (st_cm co_eq (se_v 4 rfl (vis_of rfl)) (se_v 2 rfl (vis_of rfl))) (sw_and1 (st_val (se_call (hC _ rfl) rfl (sa_cons (se_v 2 rfl (vis_of rfl)) (sa_cons (se_v 4 rfl (vis_of rfl)) sa_nil)))))))) (se_v 4 rfl (vis_of rfl)))) se_int) (sss_one (ss_ret se_bl)) sss_nil))))
  (sss_one (ss_ret se_bl)))) sss_nil)
  (sss_one (ss_ret (se_cm co_eq (se_v 0 rfl (vis_of rfl)) (se_v 1 rfl (vis_of rfl))))))))

abbrev s_law_closed : Stmt := topS 13
theorem sc_law_closed : FnScope ["n", "pairs", "pair", "found", "turn", "a", "c", "d", "b", "unlike"] ["n", "pairs"] (defScope s_law_closed) := ⟨rfl, rfl, rfl, by decide +kernel, rfl, by decide +kernel, by decide +kernel⟩
theorem d_law_closed {g : Gb} {k : Nat} {C : Calls} (hB : ∀ x, Bn.contains x = true → g.mg x = none) (hC : ∀ x, Fns.contains x = true → FnIn g k C x) : SSs k ⟨g, ["n", "pairs", "pair", "found", "turn", "a", "c", "d", "b", "unlike"], defScope s_law_closed, fun _ => true, true, none⟩ (defBody s_law_closed) (f_law_closed.body C) :=
  (sss_cons (ss_setLcO (own := [((Str.ofString "pair"), 2)]) 3 rfl (inPl (by rfl) (by rfl) (by rfl)) (si_val (se_v 1 rfl (vis_of rfl))) (by rfl) (by rfl) (sg_name 2 rfl (by first | exact Or.inl rfl | exact Or.inr rfl) (by first | exact Or.inl rfl | exact Or.inr rfl)) (by decide) sts_nil (se_v 2 rfl (vis_of rfl)))
  (sss_cons (ss_for (si_rng1 rfl (hB _ rfl) se_int) (sg_name 4 rfl (by first | exact Or.inl rfl | exact Or.inr rfl) (by first | exact Or.inl rfl | exact Or.inr rfl)) (sss_one (ss_for (si_val (se_list1 rfl (hB _ rfl) (se_v 3 rfl (vis_of rfl)))) (sg_tup (sgs_cons (sg_name 5 rfl (by first | exact Or.inl rfl | exact Or.inr rfl) (by first | exact Or.inl rfl | exact Or.inr rfl)) (sgs_cons (sg_name 6 rfl (by first | exact Or.inl rfl | exact Or.inr rfl) (by first | exact Or.inl rfl | exact Or.inr rfl)) sgs_nil))) (sss_one (ss_for (si_val (se_list1 rfl (hB _ rfl) (se_v 3 rfl (vis_of rfl)))) (sg_tup (sgs_cons (sg_name 7 rfl (by first | exact Or.inl rfl | exact Or.inr rfl) (by first | exact Or.inl rfl | exact Or.inr rfl)) (sgs_cons (sg_name 8 rfl (by first | exact Or.inl rfl | exact Or.inr rfl) (by first | exact Or.inl rfl | exact Or.inr rfl)) sgs_nil))) (sss_one (ss_if (SW.st (sw_and (st_cm co_eq (se_v 6 rfl (vis_of rfl)) (se_v 7 rfl (vis_of rfl))) (sw_and1 (st_cm co_notIn (se_tup (sa_cons (se_v 5 rfl (vis_of rfl)) (sa_cons (se_v 8 rfl (vis_of rfl)) sa_nil))) (se_v 3 rfl (vis_of rfl)))))) (sss_one (ss_expr (se_app 3 rfl (vis_of rfl) (se_tup (sa_cons (se_v 5 rfl (vis_of rfl)) (sa_cons (se_v 8 rfl (vis_of rfl)) sa_nil)))))) sss_nil)))))))
  (sss_cons (ss_setO 9 rfl (by first | exact Or.inl rfl | exact Or.inr rfl) (by first | exact Or.inl rfl | exact Or.inr rfl) (se_lst sa_nil) ⟨fun _ _ => rfl⟩)
  (sss_cons (ss_for (si_val (se_sorted1 rfl (hB _ rfl) (se_v 3 rfl (vis_of rfl)))) (sg_name 2 rfl (by first | exact Or.inl rfl | exact Or.inr rfl) (by first | exact Or.inl rfl | exact Or.inr rfl)) (sss_one (ss_if (st_cm co_notIn (se_v 2 rfl (vis_of rfl)) (se_v 9 rfl (vis_of rfl))) (sss_one (ss_expr (se_app 9 rfl (vis_of rfl) (se_v 2 rfl (vis_of rfl))))) sss_nil)))
  (sss_one (ss_ret (se_tuple1 rfl (hB _ rfl) (se_v 9 rfl (vis_of rfl)))))))))

abbrev s_law_names : Stmt := topS 14
theorem sc_law_names : FnScope ["draws", "at", "n", "left", "found", "k"] ["draws", "at", "n"] (defScope s_law_names) := ⟨rfl, rfl, rfl, by decide +kernel, rfl, by decide +kernel, by decide +kernel⟩
theorem d_law_names {g : Gb} {k : Nat} {C : Calls} (hB : ∀ x, Bn.contains x = true → g.mg x = none) (hC : ∀ x, Fns.contains x = true → FnIn g k C x) : SSs k ⟨g, ["draws", "at", "n", "left", "found", "k"], defScope s_law_names, fun _ => true, true, none⟩ (defBody s_law_names) (f_law_names.body C) :=
  (sss_cons (ss_setO 3 rfl (by first | exact Or.inl rfl | exact Or.inr rfl) (by first | exact Or.inl rfl | exact Or.inr rfl) (se_lstRg rfl (hB _ rfl) (srg_1 rfl (hB _ rfl) (se_v 2 rfl (vis_of rfl)))) ⟨fun _ _ => rfl⟩)
  (sss_cons (ss_set 4 rfl (by first | exact Or.inl rfl | exact Or.inr rfl) (by first | exact Or.inl rfl | exact Or.inr rfl) (se_tup sa_nil) ⟨fun _ _ => rfl⟩)
  (sss_cons (ss_for (si_rng1 rfl (hB _ rfl) (se_v 2 rfl (vis_of rfl))) (sg_name 5 rfl (by first | exact Or.inl rfl | exact Or.inr rfl) (by first | exact Or.inl rfl | exact Or.inr rfl)) (sss_one (ss_set 4 rfl (by first | exact Or.inl rfl | exact Or.inr rfl) (by first | exact Or.inl rfl | exact Or.inr rfl) (se_add (se_v 4 rfl (vis_of rfl)) (se_tup (sa_cons (se_popAt 3 rfl (vis_of rfl) (se_mod (se_int1 rfl (hB _ rfl) (se_ix (se_v 0 rfl (vis_of rfl)) (se_mod (se_add (se_v 1 rfl (vis_of rfl)) (se_v 5 rfl (vis_of rfl))) (se_len rfl (hB _ rfl) (se_v 0 rfl (vis_of rfl)))))) (se_len rfl (hB _ rfl) (se_v 3 rfl (vis_of rfl))))) sa_nil))) ⟨fun _ _ => rfl⟩)))
  (sss_one (ss_ret (se_v 4 rfl (vis_of rfl)))))))

abbrev s_law_special : Stmt := topS 15
theorem sc_law_special : FnScope ["number", "rows", "n", "pairs"] ["number"] (defScope s_law_special) := ⟨rfl, rfl, rfl, by decide +kernel, rfl, by decide +kernel, by decide +kernel⟩
theorem d_law_special {g : Gb} {k : Nat} {C : Calls} (hB : ∀ x, Bn.contains x = true → g.mg x = none) (hC : ∀ x, Fns.contains x = true → FnIn g k C x) : SSs k ⟨g, ["number", "rows", "n", "pairs"], defScope s_law_special, fun _ => true, true, none⟩ (defBody s_law_special) (f_law_special.body C) :=
  (sss_cons (ss_set 1 rfl (by first | exact Or.inl rfl | exact Or.inr rfl) (by first | exact Or.inl rfl | exact Or.inr rfl) (se_lst (sa_cons (se_tup (sa_cons se_int (sa_cons (se_tup sa_nil) sa_nil))) (sa_cons (se_tup (sa_cons se_int (sa_cons (se_tup sa_nil) sa_nil))) (sa_cons (se_tup (sa_cons se_int (sa_cons (se_tup (sa_cons (se_tup (sa_cons se_int (sa_cons se_int sa_nil))) (sa_cons (se_tup (sa_cons se_int (sa_cons se_int sa_nil))) (sa_cons (se_tup (sa_cons se_int (sa_cons se_int sa_nil))) sa_nil)))) sa_nil))) (sa_cons (se_tup (sa_cons se_int (sa_cons (se_tup (sa_cons (se_tup (sa_cons se_int (sa_cons se_int sa_nil))) (sa_cons (se_tup (sa_cons se_int (sa_cons se_int sa_nil))) (sa_cons (se_tup (sa_cons se_int (sa_cons se_int sa_nil))) sa_nil)))) sa_nil))) (sa_cons (se_tup (sa_cons se_int (sa_cons (se_tup (sa_cons (se_tup (sa_cons se_int (sa_cons se_int sa_nil))) (sa_cons (se_tup (sa_cons se_int (sa_cons se_int sa_nil))) sa_nil))) sa_nil))) (sa_cons (se_tup (sa_cons se_int (sa_cons (se_tup (sa_cons (se_tup (sa_cons se_int (sa_cons se_int sa_nil))) (sa_cons (se_tup (sa_cons se_int (sa_cons se_int sa_nil))) sa_nil))) sa_nil))) sa_nil))))))) ⟨fun _ _ => rfl⟩)
  (sss_cons (ss_set 1 rfl (by first | exact Or.inl rfl | exact Or.inr rfl) (by first | exact Or.inl rfl | exact Or.inr rfl) (se_add (se_v 1 rfl (vis_of rfl)) (se_lst (sa_cons (se_tup (sa_cons se_int (sa_cons (se_tup (sa_cons (se_tup (sa_cons se_int (sa_cons se_int sa_nil))) (sa_cons (se_tup (sa_cons se_int (sa_cons se_int sa_nil))) (sa_cons (se_tup (sa_cons se_int (sa_cons se_int sa_nil))) (sa_cons (se_tup (sa_cons se_int (sa_cons se_int sa_nil))) (sa_cons (se_tup (sa_cons se_int (sa_cons se_int sa_nil))) (sa_cons (se_tup (sa_cons se_int (sa_cons se_int sa_nil))) sa_nil))))))) sa_nil))) (sa_cons (se_tup (sa_cons se_int (sa_cons (se_tup (sa_cons (se_tup (sa_cons se_int (sa_cons se_int sa_nil))) (sa_cons (se_tup (sa_cons se_int (sa_cons se_int sa_nil))) (sa_cons (se_tup (sa_cons se_int (sa_cons se_int sa_nil))) (sa_cons (se_tup (sa_cons se_int (sa_cons se_int sa_nil))) (sa_cons (se_tup (sa_cons se_int (sa_cons se_int sa_nil))) (sa_cons (se_tup (sa_cons se_int (sa_cons se_int sa_nil))) (sa_cons (se_tup (sa_cons se_int (sa_cons se_int sa_nil))) sa_nil)))))))) sa_nil))) sa_nil)))) ⟨fun _ _ => rfl⟩)
  (sss_cons (ss_set 1 rfl (by first | exact Or.inl rfl | exact Or.inr rfl) (by first | exact Or.inl rfl | exact Or.inr rfl) (se_add (se_v 1 rfl (vis_of rfl)) (se_lst (sa_cons (se_tup (sa_cons se_int (sa_cons (se_tup (sa_cons (se_tup (sa_cons se_int (sa_cons se_int sa_nil))) (sa_cons (se_tup (sa_cons se_int (sa_cons se_int sa_nil))) (sa_cons (se_tup (sa_cons se_int (sa_cons se_int sa_nil))) (sa_cons (se_tup (sa_cons se_int (sa_cons se_int sa_nil))) (sa_cons (se_tup (sa_cons se_int (sa_cons se_int sa_nil))) (sa_cons (se_tup (sa_cons se_int (sa_cons se_int sa_nil))) (sa_cons (se_tup (sa_cons se_int (sa_cons se_int sa_nil))) (sa_cons (se_tup (sa_cons se_int (sa_cons se_int sa_nil))) sa_nil))))))))) sa_nil))) (sa_cons (se_tup (sa_cons se_int (sa_cons (se_tup (sa_cons (se_tup (sa_cons se_int (sa_cons se_int sa_nil))) (sa_cons (se_tup (sa_cons se_int (sa_cons se_int sa_nil))) (sa_cons (se_tup (sa_cons se_int (sa_cons se_int sa_nil))) (sa_cons (se_tup (sa_cons se_int (sa_cons se_int sa_nil))) sa_nil))))) sa_nil))) sa_nil)))) ⟨fun _ _ => rfl⟩)
  (sss_cons (ss_set 1 rfl (by first | exact Or.inl rfl | exact Or.inr rfl) (by first | exact Or.inl rfl | exact Or.inr rfl) (se_add (se_v 1 rfl (vis_of rfl)) (se_lst (sa_cons (se_tup (sa_cons se_int (sa_cons (se_tup (sa_cons (se_tup (sa_cons se_int (sa_cons se_int sa_nil))) (sa_cons (se_tup (sa_cons se_int (sa_cons se_int sa_nil))) (sa_cons (se_tup (sa_cons se_int (sa_cons se_int sa_nil))) (sa_cons (se_tup (sa_cons se_int (sa_cons se_int sa_nil))) (sa_cons (se_tup (sa_cons se_int (sa_cons se_int sa_nil))) (sa_cons (se_tup (sa_cons se_int (sa_cons se_int sa_nil))) sa_nil))))))) sa_nil))) (sa_cons (se_tup (sa_cons se_int (sa_cons (se_tup (sa_cons (se_tup (sa_cons se_int (sa_cons se_int sa_nil))) (sa_cons (se_tup (sa_cons se_int (sa_cons se_int sa_nil))) (sa_cons (se_tup (sa_cons se_int (sa_cons se_int sa_nil))) (sa_cons (se_tup (sa_cons se_int (sa_cons se_int sa_nil))) (sa_cons (se_tup (sa_cons se_int (sa_cons se_int sa_nil))) (sa_cons (se_tup (sa_cons se_int (sa_cons se_int sa_nil))) sa_nil))))))) sa_nil))) sa_nil)))) ⟨fun _ _ => rfl⟩)
  (sss_cons (ss_asg (sg_tup (sgs_cons (sg_name 2 rfl (by first | exact Or.inl rfl | exact Or.inr rfl) (by first | exact Or.inl rfl | exact Or.inr rfl)) (sgs_cons (sg_name 3 rfl (by first | exact Or.inl rfl | exact Or.inr rfl) (by first | exact Or.inl rfl | exact Or.inr rfl)) sgs_nil))) (se_ix (se_v 1 rfl (vis_of rfl)) (se_mod (se_v 0 rfl (vis_of rfl)) (se_len rfl (hB _ rfl) (se_v 1 rfl (vis_of rfl))))))
  (sss_one (ss_ret (se_tup (sa_cons (se_v 2 rfl (vis_of rfl)) (sa_cons (se_call (hC _ rfl) rfl (sa_cons (se_v 2 rfl (vis_of rfl)) (sa_cons (se_v 3 rfl (vis_of rfl)) sa_nil))) sa_nil))))))))))

abbrev s_law_order : Stmt := topS 16
theorem sc_law_order : FnScope ["draws", "most", "n", "order", "names", "dense", "pairs", "at", "b", "a"] ["draws", "most"] (defScope s_law_order) := ⟨rfl, rfl, rfl, by decide +kernel, rfl, by decide +kernel, by decide +kernel⟩
theorem d_law_order {g : Gb} {k : Nat} {C : Calls} (hB : ∀ x, Bn.contains x = true → g.mg x = none) (hC : ∀ x, Fns.contains x = true → FnIn g k C x) : SSs k ⟨g, ["draws", "most", "n", "order", "names", "dense", "pairs", "at", "b", "a"], defScope s_law_order, fun _ => true, true, none⟩ (defBody s_law_order) (f_law_order.body C) :=
  (sss_cons (ss_set 2 rfl (by first | exact Or.inl rfl | exact Or.inr rfl) (by first | exact Or.inl rfl | exact Or.inr rfl) (se_add se_int (se_mod (se_int1 rfl (hB _ rfl) (se_ix (se_v 0 rfl (vis_of rfl)) se_int)) (se_v 1 rfl (vis_of rfl)))) ⟨fun _ _ => rfl⟩)
  (sss_cons (ss_if (st_cm co_eq (se_mod (se_ix (se_v 0 rfl (vis_of rfl)) se_int) se_int) se_int) (sss_cons (ss_set 3 rfl (by first | exact Or.inl rfl | exact Or.inr rfl) (by first | exact Or.inl rfl | exact Or.inr rfl) (se_call (hC _ rfl) rfl (sa_cons (se_int1 rfl (hB _ rfl) (se_ix (se_v 0 rfl (vis_of rfl)) se_int)) sa_nil)) ⟨fun _ _ => rfl⟩)
  (sss_one (ss_if (st_cm co_le (se_ix (se_v 3 rfl (vis_of rfl)) se_int) (se_v 1 rfl (vis_of rfl))) (sss_one (ss_ret (se_v 3 rfl (vis_of rfl)))) sss_nil))) sss_nil)
  (sss_cons (ss_set 4 rfl (by first | exact Or.inl rfl | exact Or.inr rfl) (by first | exact Or.inl rfl | exact Or.inr rfl) (se_call (hC _ rfl) rfl (sa_cons (se_v 0 rfl (vis_of rfl)) (sa_cons se_int (sa_cons (se_v 2 rfl (vis_of rfl)) sa_nil)))) ⟨fun _ _ => rfl⟩)
  (sss_cons (ss_set 5 rfl (by first | exact Or.inl rfl | exact Or.inr rfl) (by first | exact Or.inl rfl | exact Or.inr rfl) (se_ix (se_lst (sa_cons se_int (sa_cons se_int (sa_cons se_int (sa_cons se_int sa_nil))))) (se_mod (se_fdiv (se_int1 rfl (hB _ rfl) (se_ix (se_v 0 rfl (vis_of rfl)) se_int)) se_int) se_int)) ⟨fun _ _ => rfl⟩)
  (sss_cons (ss_setO 6 rfl (by first | exact Or.inl rfl | exact Or.inr rfl) (by first | exact Or.inl rfl | exact Or.inr rfl) (se_lst sa_nil) ⟨fun _ _ => rfl⟩)
  (sss_cons (ss_set 7 rfl (by first | exact Or.inl rfl | exact Or.inr rfl) (by first | exact Or.inl rfl | exact Or.inr rfl) se_int ⟨fun _ _ => rfl⟩)
  (sss_cons (ss_for (si_rng1 rfl (hB _ rfl) (se_v 2 rfl (vis_of rfl))) (sg_name 8 rfl (by first | exact Or.inl rfl | exact Or.inr rfl) (by first | exact Or.inl rfl | exact Or.inr rfl)) (sss_one (ss_for (si_rng1 rfl (hB _ rfl) (se_v 8 rfl (vis_of rfl))) (sg_name 9 rfl (by first | exact Or.inl rfl | exact Or.inr rfl) (by first | exact Or.inl rfl | exact Or.inr rfl)) (sss_cons (ss_if (st_cm co_eq (se_mod (se_fdiv (se_int1 rfl (hB _ rfl) (se_ix (se_v 0 rfl (vis_of rfl)) (se_mod (se_v 7 rfl (vis_of rfl)) (se_len rfl (hB _ rfl) (se_v 0 rfl (vis_of rfl)))))) (se_add se_int (se_fdiv (se_v 7 rfl (vis_of rfl)) (se_len rfl (hB _ rfl) (se_v 0 rfl (vis_of rfl)))))) (se_v 5 rfl (vis_of rfl))) se_int) (sss_one (ss_expr (se_app 6 rfl (vis_of rfl) (se_tup (sa_cons (se_ix (se_v 4 rfl (vis_of rfl)) (se_v 9 rfl (vis_of rfl))) (sa_cons (se_ix (se_v 4 rfl (vis_of rfl)) (se_v 8 rfl (vis_of rfl))) sa_nil)))))) sss_nil)
  (sss_one (ss_set 7 rfl (by first | exact Or.inl rfl | exact Or.inr rfl) (by first | exact Or.inl rfl | exact Or.inr rfl) (se_add (se_v 7 rfl (vis_of rfl)) se_int) ⟨fun _ _ => rfl⟩))))))
  (sss_one (ss_ret (se_tup (sa_cons (se_v 2 rfl (vis_of rfl)) (sa_cons (se_call (hC _ rfl) rfl (sa_cons (se_v 2 rfl (vis_of rfl)) (sa_cons (se_v 6 rfl (vis_of rfl)) sa_nil))) sa_nil))))))))))))

abbrev s_law_lines : Stmt := topS 17
theorem sc_law_lines : FnScope ["order", "rows", "k", "more", "row", "a", "b", "c"] ["order"] (defScope s_law_lines) := ⟨rfl, rfl, rfl, by decide +kernel, rfl, by decide +kernel, by decide +kernel⟩
theorem d_law_lines {g : Gb} {k : Nat} {C : Calls} (hB : ∀ x, Bn.contains x = true → g.mg x = none) (hC : ∀ x, Fns.contains x = true → FnIn g k C x) : SSs k ⟨g, ["order", "rows", "k", "more", "row", "a", "b", "c"], defScope s_law_lines, fun _ => true, true, none⟩ (defBody s_law_lines) (f_law_lines.body C) :=
  (sss_cons (ss_set 1 rfl (by first | exact Or.inl rfl | exact Or.inr rfl) (by first | exact Or.inl rfl | exact Or.inr rfl) (se_lst (sa_cons (se_tup sa_nil) sa_nil)) ⟨fun _ _ => rfl⟩)
  (sss_cons (ss_for (si_rng1 rfl (hB _ rfl) (se_ix (se_v 0 rfl (vis_of rfl)) se_int)) (sg_name 2 rfl (by first | exact Or.inl rfl | exact Or.inr rfl) (by first | exact Or.inl rfl | exact Or.inr rfl)) (sss_cons (ss_setO 3 rfl (by first | exact Or.inl rfl | exact Or.inr rfl) (by first | exact Or.inl rfl | exact Or.inr rfl) (se_lst sa_nil) ⟨fun _ _ => rfl⟩)
  (sss_cons (ss_for (si_val (se_v 1 rfl (vis_of rfl))) (sg_name 4 rfl (by first | exact Or.inl rfl | exact Or.inr rfl) (by first | exact Or.inl rfl | exact Or.inr rfl)) (sss_one (ss_for (si_rng1 rfl (hB _ rfl) (se_ix (se_v 0 rfl (vis_of rfl)) se_int)) (sg_name 5 rfl (by first | exact Or.inl rfl | exact Or.inr rfl) (by first | exact Or.inl rfl | exact Or.inr rfl)) (sss_one (ss_if (SW.st (sw_and (st_cm co_notIn (se_v 5 rfl (vis_of rfl)) (se_v 4 rfl (vis_of rfl))) (sw_and1 (st_cm co_eq (se_len rfl (hB _ rfl) (se_lc (own := [((Str.ofString "b"), 6), ((Str.ofString "c"), 7)]) (si_val (se_ix (se_v 0 rfl (vis_of rfl)) se_int)) (by rfl) (sg_tup (sgs_cons (sg_name 6 rfl (by first | exact Or.inl rfl | exact Or.inr rfl) (by first | exact Or.inl rfl | exact Or.inr rfl)) (sgs_cons (sg_name 7 rfl (by first | exact Or.inl rfl | exact Or.inr rfl) (by first | exact Or.inl rfl | exact Or.inr rfl)) sgs_nil))) (by decide) (sts_one (SW.st (sw_and (st_cm co_eq (se_v 7 rfl (vis_of rfl)) (se_v 5 rfl (vis_of rfl))) (sw_and1 (st_cm co_notIn (se_v 6 rfl (vis_of rfl)) (se_v 4 rfl (vis_of rfl))))))) (se_v 6 rfl (vis_of rfl)))) se_int)))) (sss_one (ss_expr (se_app 3 rfl (vis_of rfl) (se_add (se_v 4 rfl (vis_of rfl)) (se_tup (sa_cons (se_v 5 rfl (vis_of rfl)) sa_nil)))))) sss_nil)))))
  (sss_one (ss_set 1 rfl (by first | exact Or.inl rfl | exact Or.inr rfl) (by first | exact Or.inl rfl | exact Or.inr rfl) (se_mv 3 rfl (vis_of rfl)) ⟨fun _ _ => rfl⟩)))))
  (sss_one (ss_ret (se_v 1 rfl (vis_of rfl))))))

abbrev s_o_law : Stmt := topS 18
theorem sc_o_law : FnScope ["script", "draws", "order", "rows", "counts", "row", "k", "at"] ["script"] (defScope s_o_law) := ⟨rfl, rfl, rfl, by decide +kernel, rfl, by decide +kernel, by decide +kernel⟩
theorem d_o_law {g : Gb} {k : Nat} {C : Calls} (hB : ∀ x, Bn.contains x = true → g.mg x = none) (hC : ∀ x, Fns.contains x = true → FnIn g k C x) : SSs k ⟨g, ["script", "draws", "order", "rows", "counts", "row", "k", "at"], defScope s_o_law, fun _ => true, true, none⟩ (defBody s_o_law) (f_o_law.body C) :=
  (sss_cons (ss_set 1 rfl (by first | exact Or.inl rfl | exact Or.inr rfl) (by first | exact Or.inl rfl | exact Or.inr rfl) (se_call (hC _ rfl) rfl (sa_cons (se_call (hC _ rfl) rfl (sa_cons (se_v 0 rfl (vis_of rfl)) (sa_cons se_int sa_nil))) (sa_cons se_int sa_nil))) ⟨fun _ _ => rfl⟩)
  (sss_cons (ss_set 2 rfl (by first | exact Or.inl rfl | exact Or.inr rfl) (by first | exact Or.inl rfl | exact Or.inr rfl) (se_call (hC _ rfl) rfl (sa_cons (se_v 1 rfl (vis_of rfl)) (sa_cons se_int sa_nil))) ⟨fun _ _ => rfl⟩)
  (sss_cons (ss_set 3 rfl (by first | exact Or.inl rfl | exact Or.inr rfl) (by first | exact Or.inl rfl | exact Or.inr rfl) (se_sorted1 rfl (hB _ rfl) (se_call (hC _ rfl) rfl (sa_cons (se_v 2 rfl (vis_of rfl)) sa_nil))) ⟨fun _ _ => rfl⟩)
  (sss_cons (ss_setO 4 rfl (by first | exact Or.inl rfl | exact Or.inr rfl) (by first | exact Or.inl rfl | exact Or.inr rfl) (se_lst sa_nil) ⟨fun _ _ => rfl⟩)
  (sss_cons (ss_for (si_val (se_v 3 rfl (vis_of rfl))) (sg_name 5 rfl (by first | exact Or.inl rfl | exact Or.inr rfl) (by first | exact Or.inl rfl | exact Or.inr rfl)) (sss_one (ss_expr (se_app 4 rfl (vis_of rfl) (se_len rfl (hB _ rfl) (se_lc (own := [((Str.ofString "k"), 6)]) (si_rng1 rfl (hB _ rfl) (se_sub (se_len rfl (hB _ rfl) (se_v 5 rfl (vis_of rfl))) se_int)) (by rfl) (sg_name 6 rfl (by first | exact Or.inl rfl | exact Or.inr rfl) (by first | exact Or.inl rfl | exact Or.inr rfl)) (by decide) (sts_one (st_cm co_notIn (se_tup (sa_cons (se_ix (se_v 5 rfl (vis_of rfl)) (se_v 6 rfl (vis_of rfl))) (sa_cons (se_ix (se_v 5 rfl (vis_of rfl)) (se_add (se_v 6 rfl (vis_of rfl)) se_int)) sa_nil))) (se_ix (se_v 2 rfl (vis_of rfl)) se_int))) (se_v 6 rfl (vis_of rfl))))))))
  (sss_cons (ss_for (si_rng1 rfl (hB _ rfl) se_int) (sg_name 6 rfl (by first | exact Or.inl rfl | exact Or.inr rfl) (by first | exact Or.inl rfl | exact Or.inr rfl)) (sss_cons (ss_set 7 rfl (by first | exact Or.inl rfl | exact Or.inr rfl) (by first | exact Or.inl rfl | exact Or.inr rfl) (se_mod (se_ix (se_v 1 rfl (vis_of rfl)) (se_add se_int (se_v 6 rfl (vis_of rfl)))) (se_len rfl (hB _ rfl) (se_v 3 rfl (vis_of rfl)))) ⟨fun _ _ => rfl⟩)
  (sss_one (ss_if (st_not (st_val (se_call (hC _ rfl) rfl (sa_cons (se_call (hC _ rfl) rfl (sa_cons (se_v 2 rfl (vis_of rfl)) (sa_cons (se_ix (se_v 3 rfl (vis_of rfl)) (se_v 7 rfl (vis_of rfl))) sa_nil))) (sa_cons (se_ix (se_v 4 rfl (vis_of rfl)) (se_v 7 rfl (vis_of rfl))) sa_nil))))) (sss_one (ss_ret se_bl)) sss_nil))))
  (sss_one (ss_ret (se_call (hC _ rfl) rfl (sa_cons (se_call (hC _ rfl) rfl (sa_cons (se_v 2 rfl (vis_of rfl)) sa_nil)) (sa_cons (se_ix (se_v 3 rfl (vis_of rfl)) (se_lidx (se_v 4 rfl (vis_of rfl)) (se_minM rfl (hB _ rfl) (se_v 4 rfl (vis_of rfl))))) sa_nil)))))))))))

def T : Tab := [((Str.ofString "under"), f_o_under), ((Str.ofString "free_items"), f_o_free_items), ((Str.ofString "add_lines"), f_o_add_lines), ((Str.ofString "lines"), f_o_lines), ((Str.ofString "jumps"), f_o_jumps), ((Str.ofString "calm_line"), f_o_calm_line), ((Str.ofString "_law_cell"), f_law_cell), ((Str.ofString "_law_draws"), f_law_draws), ((Str.ofString "_law_kind"), f_law_kind), ((Str.ofString "_law_equal"), f_law_equal), ((Str.ofString "_law_closed"), f_law_closed), ((Str.ofString "_law_names"), f_law_names), ((Str.ofString "_law_special"), f_law_special), ((Str.ofString "_law_order"), f_law_order), ((Str.ofString "_law_lines"), f_law_lines), ((Str.ofString "law"), f_o_law)]
theorem all_mk {l : PySem.W.OpenLaw} {w : World} {K : PySem.W.Frag} {h : Heap} {mg : Str → Option Value} {fa f0 f1 f2 f3 f4 f5 f6 f7 f8 f9 f10 f11 f12 f13 f14 f15 : Addr} (good : Good (callF T 200)) (X : K.In h) (G : h.Ns mainGlobals mg) (hfa : mg (Str.ofString "law") = some (.ref fa))
    {od0 an0 : Option Addr} {sl0 : Array (Option Value)} {oc0 kV0 dc0 pm0 cd0 ct0 : Value} (a0 : PySem.W.nsIn K mainGlobals (Str.ofString "under") = some (some (.ref f0))) (l0 : K.lookup f0 = some ⟨oc0, od0, .func (PySem.W.fnOf (Str.ofString "under") (Str.ofString "under") (defArgs s_o_under) (defBody s_o_under) (defScope s_o_under) .none kV0 dc0 pm0 an0 cd0 ct0), sl0⟩) (c0 : PySem.W.codeIn K cd0 (Str.ofString "under") = true) (k0 : PySem.W.keepIn K (.ref f0) = true)
    {od1 an1 : Option Addr} {sl1 : Array (Option Value)} {oc1 kV1 dc1 pm1 cd1 ct1 : Value} (a1 : PySem.W.nsIn K mainGlobals (Str.ofString "free_items") = some (some (.ref f1))) (l1 : K.lookup f1 = some ⟨oc1, od1, .func (PySem.W.fnOf (Str.ofString "free_items") (Str.ofString "free_items") (defArgs s_o_free_items) (defBody s_o_free_items) (defScope s_o_free_items) .none kV1 dc1 pm1 an1 cd1 ct1), sl1⟩) (c1 : PySem.W.codeIn K cd1 (Str.ofString "free_items") = true) (k1 : PySem.W.keepIn K (.ref f1) = true)
    {od2 an2 : Option Addr} {sl2 : Array (Option Value)} {oc2 kV2 dc2 pm2 cd2 ct2 : Value} (a2 : PySem.W.nsIn K mainGlobals (Str.ofString "add_lines") = some (some (.ref f2))) (l2 : K.lookup f2 = some ⟨oc2, od2, .func (PySem.W.fnOf (Str.ofString "add_lines") (Str.ofString "add_lines") (defArgs s_o_add_lines) (defBody s_o_add_lines) (defScope s_o_add_lines) .none kV2 dc2 pm2 an2 cd2 ct2), sl2⟩) (c2 : PySem.W.codeIn K cd2 (Str.ofString "add_lines") = true) (k2 : PySem.W.keepIn K (.ref f2) = true)
    {od3 an3 : Option Addr} {sl3 : Array (Option Value)} {oc3 kV3 dc3 pm3 cd3 ct3 : Value} (a3 : PySem.W.nsIn K mainGlobals (Str.ofString "lines") = some (some (.ref f3))) (l3 : K.lookup f3 = some ⟨oc3, od3, .func (PySem.W.fnOf (Str.ofString "lines") (Str.ofString "lines") (defArgs s_o_lines) (defBody s_o_lines) (defScope s_o_lines) .none kV3 dc3 pm3 an3 cd3 ct3), sl3⟩) (c3 : PySem.W.codeIn K cd3 (Str.ofString "lines") = true) (k3 : PySem.W.keepIn K (.ref f3) = true)
    {od4 an4 : Option Addr} {sl4 : Array (Option Value)} {oc4 kV4 dc4 pm4 cd4 ct4 : Value} (a4 : PySem.W.nsIn K mainGlobals (Str.ofString "jumps") = some (some (.ref f4))) (l4 : K.lookup f4 = some ⟨oc4, od4, .func (PySem.W.fnOf (Str.ofString "jumps") (Str.ofString "jumps") (defArgs s_o_jumps) (defBody s_o_jumps) (defScope s_o_jumps) .none kV4 dc4 pm4 an4 cd4 ct4), sl4⟩) (c4 : PySem.W.codeIn K cd4 (Str.ofString "jumps") = true) (k4 : PySem.W.keepIn K (.ref f4) = true)
    {od5 an5 : Option Addr} {sl5 : Array (Option Value)} {oc5 kV5 dc5 pm5 cd5 ct5 : Value} (a5 : PySem.W.nsIn K mainGlobals (Str.ofString "calm_line") = some (some (.ref f5))) (l5 : K.lookup f5 = some ⟨oc5, od5, .func (PySem.W.fnOf (Str.ofString "calm_line") (Str.ofString "calm_line") (defArgs s_o_calm_line) (defBody s_o_calm_line) (defScope s_o_calm_line) .none kV5 dc5 pm5 an5 cd5 ct5), sl5⟩) (c5 : PySem.W.codeIn K cd5 (Str.ofString "calm_line") = true) (k5 : PySem.W.keepIn K (.ref f5) = true)
    {od6 an6 : Option Addr} {sl6 : Array (Option Value)} {oc6 kV6 dc6 pm6 cd6 ct6 : Value} (a6 : PySem.W.nsIn K mainGlobals (Str.ofString "_law_cell") = some (some (.ref f6))) (l6 : K.lookup f6 = some ⟨oc6, od6, .func (PySem.W.fnOf (Str.ofString "_law_cell") (Str.ofString "_law_cell") (defArgs s_law_cell) (defBody s_law_cell) (defScope s_law_cell) .none kV6 dc6 pm6 an6 cd6 ct6), sl6⟩) (c6 : PySem.W.codeIn K cd6 (Str.ofString "_law_cell") = true) (k6 : PySem.W.keepIn K (.ref f6) = true)
    {od7 an7 : Option Addr} {sl7 : Array (Option Value)} {oc7 kV7 dc7 pm7 cd7 ct7 : Value} (a7 : PySem.W.nsIn K mainGlobals (Str.ofString "_law_draws") = some (some (.ref f7))) (l7 : K.lookup f7 = some ⟨oc7, od7, .func (PySem.W.fnOf (Str.ofString "_law_draws") (Str.ofString "_law_draws") (defArgs s_law_draws) (defBody s_law_draws) (defScope s_law_draws) .none kV7 dc7 pm7 an7 cd7 ct7), sl7⟩) (c7 : PySem.W.codeIn K cd7 (Str.ofString "_law_draws") = true) (k7 : PySem.W.keepIn K (.ref f7) = true)
    {od8 an8 : Option Addr} {sl8 : Array (Option Value)} {oc8 kV8 dc8 pm8 cd8 ct8 : Value} (a8 : PySem.W.nsIn K mainGlobals (Str.ofString "_law_kind") = some (some (.ref f8))) (l8 : K.lookup f8 = some ⟨oc8, od8, .func (PySem.W.fnOf (Str.ofString "_law_kind") (Str.ofString "_law_kind") (defArgs s_law_kind) (defBody s_law_kind) (defScope s_law_kind) .none kV8 dc8 pm8 an8 cd8 ct8), sl8⟩) (c8 : PySem.W.codeIn K cd8 (Str.ofString "_law_kind") = true) (k8 : PySem.W.keepIn K (.ref f8) = true)
    {od9 an9 : Option Addr} {sl9 : Array (Option Value)} {oc9 kV9 dc9 pm9 cd9 ct9 : Value} (a9 : PySem.W.nsIn K mainGlobals (Str.ofString "_law_equal") = some (some (.ref f9))) (l9 : K.lookup f9 = some ⟨oc9, od9, .func (PySem.W.fnOf (Str.ofString "_law_equal") (Str.ofString "_law_equal") (defArgs s_law_equal) (defBody s_law_equal) (defScope s_law_equal) .none kV9 dc9 pm9 an9 cd9 ct9), sl9⟩) (c9 : PySem.W.codeIn K cd9 (Str.ofString "_law_equal") = true) (k9 : PySem.W.keepIn K (.ref f9) = true)
    {od10 an10 : Option Addr} {sl10 : Array (Option Value)} {oc10 kV10 dc10 pm10 cd10 ct10 : Value} (a10 : PySem.W.nsIn K mainGlobals (Str.ofString "_law_closed") = some (some (.ref f10))) (l10 : K.lookup f10 = some ⟨oc10, od10, .func (PySem.W.fnOf (Str.ofString "_law_closed") (Str.ofString "_law_closed") (defArgs s_law_closed) (defBody s_law_closed) (defScope s_law_closed) .none kV10 dc10 pm10 an10 cd10 ct10), sl10⟩) (c10 : PySem.W.codeIn K cd10 (Str.ofString "_law_closed") = true) (k10 : PySem.W.keepIn K (.ref f10) = true)
    {od11 an11 : Option Addr} {sl11 : Array (Option Value)} {oc11 kV11 dc11 pm11 cd11 ct11 : Value} (a11 : PySem.W.nsIn K mainGlobals (Str.ofString "_law_names") = some (some (.ref f11))) (l11 : K.lookup f11 = some ⟨oc11, od11, .func (PySem.W.fnOf (Str.ofString "_law_names") (Str.ofString "_law_names") (defArgs s_law_names) (defBody s_law_names) (defScope s_law_names) .none kV11 dc11 pm11 an11 cd11 ct11), sl11⟩) (c11 : PySem.W.codeIn K cd11 (Str.ofString "_law_names") = true) (k11 : PySem.W.keepIn K (.ref f11) = true)
    {od12 an12 : Option Addr} {sl12 : Array (Option Value)} {oc12 kV12 dc12 pm12 cd12 ct12 : Value} (a12 : PySem.W.nsIn K mainGlobals (Str.ofString "_law_special") = some (some (.ref f12))) (l12 : K.lookup f12 = some ⟨oc12, od12, .func (PySem.W.fnOf (Str.ofString "_law_special") (Str.ofString "_law_special") (defArgs s_law_special) (defBody s_law_special) (defScope s_law_special) .none kV12 dc12 pm12 an12 cd12 ct12), sl12⟩) (c12 : PySem.W.codeIn K cd12 (Str.ofString "_law_special") = true) (k12 : PySem.W.keepIn K (.ref f12) = true)
    {od13 an13 : Option Addr} {sl13 : Array (Option Value)} {oc13 kV13 dc13 pm13 cd13 ct13 : Value} (a13 : PySem.W.nsIn K mainGlobals (Str.ofString "_law_order") = some (some (.ref f13))) (l13 : K.lookup f13 = some ⟨oc13, od13, .func (PySem.W.fnOf (Str.ofString "_law_order") (Str.ofString "_law_order") (defArgs s_law_order) (defBody s_law_order) (defScope s_law_order) .none kV13 dc13 pm13 an13 cd13 ct13), sl13⟩) (c13 : PySem.W.codeIn K cd13 (Str.ofString "_law_order") = true) (k13 : PySem.W.keepIn K (.ref f13) = true)
    {od14 an14 : Option Addr} {sl14 : Array (Option Value)} {oc14 kV14 dc14 pm14 cd14 ct14 : Value} (a14 : PySem.W.nsIn K mainGlobals (Str.ofString "_law_lines") = some (some (.ref f14))) (l14 : K.lookup f14 = some ⟨oc14, od14, .func (PySem.W.fnOf (Str.ofString "_law_lines") (Str.ofString "_law_lines") (defArgs s_law_lines) (defBody s_law_lines) (defScope s_law_lines) .none kV14 dc14 pm14 an14 cd14 ct14), sl14⟩) (c14 : PySem.W.codeIn K cd14 (Str.ofString "_law_lines") = true) (k14 : PySem.W.keepIn K (.ref f14) = true)
    {od15 an15 : Option Addr} {sl15 : Array (Option Value)} {oc15 kV15 dc15 pm15 cd15 ct15 : Value} (a15 : PySem.W.nsIn K mainGlobals (Str.ofString "law") = some (some (.ref f15))) (l15 : K.lookup f15 = some ⟨oc15, od15, .func (PySem.W.fnOf (Str.ofString "law") (Str.ofString "law") (defArgs s_o_law) (defBody s_o_law) (defScope s_o_law) .none kV15 dc15 pm15 an15 cd15 ct15), sl15⟩) (c15 : PySem.W.codeIn K cd15 (Str.ofString "law") = true) (k15 : PySem.W.keepIn K (.ref f15) = true)
    (z0 : PySem.W.nsIn K mainGlobals (Str.ofString "all") = some none)
    (z1 : PySem.W.nsIn K mainGlobals (Str.ofString "bool") = some none)
    (z2 : PySem.W.nsIn K mainGlobals (Str.ofString "dict") = some none)
    (z3 : PySem.W.nsIn K mainGlobals (Str.ofString "int") = some none)
    (z4 : PySem.W.nsIn K mainGlobals (Str.ofString "isinstance") = some none)
    (z5 : PySem.W.nsIn K mainGlobals (Str.ofString "len") = some none)
    (z6 : PySem.W.nsIn K mainGlobals (Str.ofString "list") = some none)
    (z7 : PySem.W.nsIn K mainGlobals (Str.ofString "min") = some none)
    (z8 : PySem.W.nsIn K mainGlobals (Str.ofString "range") = some none)
    (z9 : PySem.W.nsIn K mainGlobals (Str.ofString "sorted") = some none)
    (z10 : PySem.W.nsIn K mainGlobals (Str.ofString "str") = some none)
    (z11 : PySem.W.nsIn K mainGlobals (Str.ofString "tuple") = some none)
    {cc PP : Addr} {cdd : Option Addr} {cvs : Array Value} {csl : Array (Option Value)} (w4 : cd5 = .ref cc) (w0 : K.lookup cc = some ⟨.type "code", cdd, .fields cvs, csl⟩) (w1 : cvs[11]? = some (.ref PP)) (w2 : hdB cvs cc PP = true) (w3 : K.lookup PP = none) (w5 : h.get? PP = some { cls := .none, data := .fields #[] })
    : LamX.LawAtS l w K (L2.CX l.prog w) 200 63 (Str.ofString "script") mg fa h := by
  subst w4
  have e := hfa.symm.trans (PySem.W.mg_of X G a15)
  cases e
  have F0 := fun_mk (st := s_o_under) l0 c0 k0
  have b0 := F0.binds (ps := [(Str.ofString "order"), (Str.ofString "a")]) fun _ _ _ _ _ _ us hl => match us, hl with | [_, _], _ => rfl
  have F1 := fun_mk (st := s_o_free_items) l1 c1 k1
  have b1 := F1.binds (ps := [(Str.ofString "order"), (Str.ofString "done")]) fun _ _ _ _ _ _ us hl => match us, hl with | [_, _], _ => rfl
  have F2 := fun_mk (st := s_o_add_lines) l2 c2 k2
  have b2 := F2.binds (ps := [(Str.ofString "order"), (Str.ofString "begun"), (Str.ofString "found")]) fun _ _ _ _ _ _ us hl => match us, hl with | [_, _, _], _ => rfl
  have F3 := fun_mk (st := s_o_lines) l3 c3 k3
  have b3 := F3.binds (ps := [(Str.ofString "order")]) fun _ _ _ _ _ _ us hl => match us, hl with | [_], _ => rfl
  have F4 := fun_mk (st := s_o_jumps) l4 c4 k4
  have b4 := F4.binds (ps := [(Str.ofString "order"), (Str.ofString "line")]) fun _ _ _ _ _ _ us hl => match us, hl with | [_, _], _ => rfl
  have F5 := fun_mk (st := s_o_calm_line) l5 c5 k5
  have b5 := F5.binds (ps := [(Str.ofString "order")]) fun _ _ _ _ _ _ us hl => match us, hl with | [_], _ => rfl
  have F6 := fun_mk (st := s_law_cell) l6 c6 k6
  have b6 := F6.binds (ps := [(Str.ofString "script"), (Str.ofString "k")]) fun _ _ _ _ _ _ us hl => match us, hl with | [_, _], _ => rfl
  have F7 := fun_mk (st := s_law_draws) l7 c7 k7
  have b7 := F7.binds (ps := [(Str.ofString "cell"), (Str.ofString "amount")]) fun _ _ _ _ _ _ us hl => match us, hl with | [_, _], _ => rfl
  have F8 := fun_mk (st := s_law_kind) l8 c8 k8
  have b8 := F8.binds (ps := [(Str.ofString "x")]) fun _ _ _ _ _ _ us hl => match us, hl with | [_], _ => rfl
  have F9 := fun_mk (st := s_law_equal) l9 c9 k9
  have b9 := F9.binds (ps := [(Str.ofString "x"), (Str.ofString "due")]) fun _ _ _ _ _ _ us hl => match us, hl with | [_, _], _ => rfl
  have F10 := fun_mk (st := s_law_closed) l10 c10 k10
  have b10 := F10.binds (ps := [(Str.ofString "n"), (Str.ofString "pairs")]) fun _ _ _ _ _ _ us hl => match us, hl with | [_, _], _ => rfl
  have F11 := fun_mk (st := s_law_names) l11 c11 k11
  have b11 := F11.binds (ps := [(Str.ofString "draws"), (Str.ofString "at"), (Str.ofString "n")]) fun _ _ _ _ _ _ us hl => match us, hl with | [_, _, _], _ => rfl
  have F12 := fun_mk (st := s_law_special) l12 c12 k12
  have b12 := F12.binds (ps := [(Str.ofString "number")]) fun _ _ _ _ _ _ us hl => match us, hl with | [_], _ => rfl
  have F13 := fun_mk (st := s_law_order) l13 c13 k13
  have b13 := F13.binds (ps := [(Str.ofString "draws"), (Str.ofString "most")]) fun _ _ _ _ _ _ us hl => match us, hl with | [_, _], _ => rfl
  have F14 := fun_mk (st := s_law_lines) l14 c14 k14
  have b14 := F14.binds (ps := [(Str.ofString "order")]) fun _ _ _ _ _ _ us hl => match us, hl with | [_], _ => rfl
  have F15 := fun_mk (st := s_o_law) l15 c15 k15
  have b15 := F15.binds (ps := [(Str.ofString "script")]) fun _ _ _ _ _ _ us hl => match us, hl with | [_], _ => rfl
  have hB : ∀ x, Bn.contains x = true → mg x = none := all_names Bn ⟨PySem.W.mg_none_of X G z0, PySem.W.mg_none_of X G z1, PySem.W.mg_none_of X G z2, PySem.W.mg_none_of X G z3, PySem.W.mg_none_of X G z4, PySem.W.mg_none_of X G z5, PySem.W.mg_none_of X G z6, PySem.W.mg_none_of X G z7, PySem.W.mg_none_of X G z8, PySem.W.mg_none_of X G z9, PySem.W.mg_none_of X G z10, PySem.W.mg_none_of X G z11, trivial⟩
  refine law_at (q := (Str.ofString "calm_line.<locals>.<lambda>")) (fd := PySem.W.fnOf (Str.ofString "law") (Str.ofString "law") (defArgs s_o_law) (defBody s_o_law) (defScope s_o_law) .none kV15 dc15 pm15 an15 cd15 ct15) X w5 (hd_of w0 w2) w3 (fun s v => .of_eq rfl) fun base _ _ TB => ?_
  have all : ∀ x, Fns.contains x = true → FnAt ⟨l.prog, w, K, mg, base, [(PP, (Str.ofString "calm_line.<locals>.<lambda>"))]⟩ T Fns x := all_names Fns ⟨fnAt_of F0 sc_o_under rfl rfl rfl (PySem.W.mg_of X G a0) b0 (fun k ih => d_o_under hB ih), fnAt_of F1 sc_o_free_items rfl rfl rfl (PySem.W.mg_of X G a1) b1 (fun k ih => d_o_free_items hB ih), fnAt_of F2 sc_o_add_lines rfl rfl rfl (PySem.W.mg_of X G a2) b2 (fun k ih => d_o_add_lines hB ih), fnAt_of F3 sc_o_lines rfl rfl rfl (PySem.W.mg_of X G a3) b3 (fun k ih => d_o_lines hB ih), fnAt_of F4 sc_o_jumps rfl rfl rfl (PySem.W.mg_of X G a4) b4 (fun k ih => d_o_jumps hB ih), fnAt_lam F5 ⟨_, _, _, _, _, _, _, _, rfl, l5, c5⟩ TB rfl sc_o_calm_line rfl rfl rfl (PySem.W.mg_of X G a5) b5 (fun k ih => d_o_calm_line hB ih (List.mem_singleton.mpr rfl) (fun p hp _ => by rw [List.mem_singleton] at hp; rw [hp])), fnAt_of F6 sc_law_cell rfl rfl rfl (PySem.W.mg_of X G a6) b6 (fun k ih => d_law_cell hB ih), fnAt_of F7 sc_law_draws rfl rfl rfl (PySem.W.mg_of X G a7) b7 (fun k ih => d_law_draws hB ih), fnAt_of F8 sc_law_kind rfl rfl rfl (PySem.W.mg_of X G a8) b8 (fun k ih => d_law_kind hB ih), fnAt_of F9 sc_law_equal rfl rfl rfl (PySem.W.mg_of X G a9) b9 (fun k ih => d_law_equal hB ih), fnAt_of F10 sc_law_closed rfl rfl rfl (PySem.W.mg_of X G a10) b10 (fun k ih => d_law_closed hB ih), fnAt_of F11 sc_law_names rfl rfl rfl (PySem.W.mg_of X G a11) b11 (fun k ih => d_law_names hB ih), fnAt_of F12 sc_law_special rfl rfl rfl (PySem.W.mg_of X G a12) b12 (fun k ih => d_law_special hB ih), fnAt_of F13 sc_law_order rfl rfl rfl (PySem.W.mg_of X G a13) b13 (fun k ih => d_law_order hB ih), fnAt_of F14 sc_law_lines rfl rfl rfl (PySem.W.mg_of X G a14) b14 (fun k ih => d_law_lines hB ih), fnAt_of F15 sc_o_law rfl rfl rfl (PySem.W.mg_of X G a15) b15 (fun k ih => d_o_law hB ih), trivial⟩
  exact law_fnT (K := K) all F15 sc_o_law rfl rfl rfl (fun k ih => d_o_law hB ih) good
noncomputable section
instance : HasF T "law" f_o_law := ⟨rfl⟩
instance : HasF T "_law_cell" f_law_cell := ⟨rfl⟩
instance : HasF T "_law_draws" f_law_draws := ⟨rfl⟩
instance : HasF T "_law_closed" f_law_closed := ⟨rfl⟩
instance : HasF T "_law_names" f_law_names := ⟨rfl⟩
instance : HasF T "_law_special" f_law_special := ⟨rfl⟩
instance : HasF T "_law_order" f_law_order := ⟨rfl⟩
instance : HasF T "_law_lines" f_law_lines := ⟨rfl⟩
instance : HasF T "jumps" f_o_jumps := ⟨rfl⟩
instance : HasF T "_law_kind" f_law_kind := ⟨rfl⟩
instance : HasF T "_law_equal" f_law_equal := ⟨rfl⟩
instance : HasF T "calm_line" f_o_calm_line := ⟨rfl⟩
instance : HasF T "lines" f_o_lines := ⟨rfl⟩
instance : HasF T "add_lines" f_o_add_lines := ⟨rfl⟩
instance : HasF T "free_items" f_o_free_items := ⟨rfl⟩
instance : HasF T "under" f_o_under := ⟨rfl⟩
def p_o_law_draws (v_script : List Int) : List (Int) := (p_law_draws (p_law_cell v_script (0 : Int)) (60 : Int))
def p_o_law_order (v_script : List Int) : (Int × List ((Int × Int))) := (p_law_order (p_o_law_draws v_script) (6 : Int))
def p_o_law_rows (v_script : List Int) : List (List (Int)) := (srtBy (eT PyData.int) (p_law_lines (p_o_law_order v_script)))
def p_o_law_I_for (v_script : List Int) : List (Int) → En → Prop := fun (s0 : List (Int)) ρ => ∃ j1, ρ = [.r v_script, .v ((eL PyData.int) (p_o_law_draws v_script)), .v ((eT2 PyData.int (eT (eT2 PyData.int PyData.int))) (p_o_law_order v_script)), .v ((eL (eT PyData.int)) (p_o_law_rows v_script)), .o false (.l (s0.map PyData.int)), j1, .un, .un] ∧ okSetO j1 = true
def p_o_law_counts (v_script : List Int) (x1 : List (Int)) (s1 : List (Int)) : List (Int) := (s1 ++ [(((rngI 0 ((x1.length : Int) - (1 : Int)).toNat).filter fun (x2 : Int) => (!decide (((gtD x1 x2), (gtD x1 (x2 + (1 : Int)))) ∈ (p_o_law_order v_script).2))).length : Int)])
def p_o_law_L (v_script : List Int) : List (Int) → (List (Int)) → List (Int) := fun (s1 : List (Int)) (x1 : List (Int)) => (p_o_law_counts v_script x1 s1)
def p_o_law_rcounts (v_script : List Int) : List (Int) := (p_o_law_rows v_script).foldl (p_o_law_L v_script) []
def p_o_law_I_for' (v_script : List Int) : Unit → En → Prop := fun (s0 : Unit) ρ => ∃ j1, ∃ j2, ∃ j3, ρ = [.r v_script, .v ((eL PyData.int) (p_o_law_draws v_script)), .v ((eT2 PyData.int (eT (eT2 PyData.int PyData.int))) (p_o_law_order v_script)), .v ((eL (eT PyData.int)) (p_o_law_rows v_script)), .o false (.l ((p_o_law_rcounts v_script).map PyData.int)), j1, j2, j3] ∧ okSetO j1 = true ∧ okSetO j2 = true ∧ okSetO j3 = true
def p_o_law_at (v_script : List Int) (x3 : Int) : Int := ((gtD (p_o_law_draws v_script) ((41 : Int) + x3)) % ((p_o_law_rows v_script).length : Int))
def p_o_law_L' (v_script : List Int) : (Int) → Option (Bool) := fun (x3 : Int) => (if (!(p_law_equal (PyData.int (p_o_jumps (p_o_law_order v_script) (gtD (p_o_law_rows v_script) (p_o_law_at v_script x3)))) (PyData.int (gtD (p_o_law_rcounts v_script) (p_o_law_at v_script x3))))) = true then (some false) else none)
def p_o_law (v_script : List Int) : Bool := (endS ((rngI 0 (8 : Int).toNat).findSome? (p_o_law_L' v_script)) (p_law_equal ((eT PyData.int) (p_o_calm_line (p_o_law_order v_script))) ((eT PyData.int) (gtD (p_o_law_rows v_script) (((p_o_law_rcounts v_script).idxOf (minT PyData.int (p_o_law_rcounts v_script)) : Nat) : Int)))) (fun b => b))
def q_o_law (v_script : List Int) : Prop := (q_law_cell v_script (0 : Int)) ∧ (q_law_draws (p_law_cell v_script (0 : Int)) (60 : Int)) ∧ (q_law_order (p_o_law_draws v_script) (6 : Int)) ∧ (q_law_lines (p_o_law_order v_script)) ∧ (∀ (pre1 : List (List (Int))) (x1 : List (Int)) (post1 : List (List (Int))) (s1 : List (Int)), pre1 ++ x1 :: post1 = (p_o_law_rows v_script) → s1 = pre1.foldl (p_o_law_L v_script) [] → (((x1.length : Int) - (1 : Int)).natAbs ≤ 1000000) ∧ (∀ x2 ∈ (rngI 0 ((x1.length : Int) - (1 : Int)).toNat), (InR x1 x2) ∧ (InR x1 (x2 + (1 : Int)))) ∧ (s1.length < 1000000)) ∧ (∀ (pre2 : List (Int)) (x3 : Int) (post2 : List (Int)), pre2 ++ x3 :: post2 = (rngI 0 (8 : Int).toNat) → pre2.findSome? (p_o_law_L' v_script) = none → (InR (p_o_law_draws v_script) ((41 : Int) + x3)) ∧ (0 < ((p_o_law_rows v_script).length : Int)) ∧ (InR (p_o_law_rows v_script) (p_o_law_at v_script x3)) ∧ (q_o_jumps (p_o_law_order v_script) (gtD (p_o_law_rows v_script) (p_o_law_at v_script x3))) ∧ (InR (p_o_law_rcounts v_script) (p_o_law_at v_script x3)) ∧ (q_law_equal (PyData.int (p_o_jumps (p_o_law_order v_script) (gtD (p_o_law_rows v_script) (p_o_law_at v_script x3)))) (PyData.int (gtD (p_o_law_rcounts v_script) (p_o_law_at v_script x3))))) ∧ (((rngI 0 (8 : Int).toNat).findSome? (p_o_law_L' v_script) = none) → ((q_o_calm_line (p_o_law_order v_script)) ∧ ((p_o_law_rcounts v_script) ≠ []) ∧ ((minT PyData.int (p_o_law_rcounts v_script)) ∈ (p_o_law_rcounts v_script)) ∧ (InR (p_o_law_rows v_script) (((p_o_law_rcounts v_script).idxOf (minT PyData.int (p_o_law_rcounts v_script)) : Nat) : Int)) ∧ (q_law_equal ((eT PyData.int) (p_o_calm_line (p_o_law_order v_script))) ((eT PyData.int) (gtD (p_o_law_rows v_script) (((p_o_law_rcounts v_script).idxOf (minT PyData.int (p_o_law_rcounts v_script)) : Nat) : Int))))))
theorem r_o_law {T : Tab} [HasF T "law" f_o_law] [HasF T "_law_cell" f_law_cell] [HasF T "_law_draws" f_law_draws] [HasF T "_law_closed" f_law_closed] [HasF T "_law_names" f_law_names] [HasF T "_law_special" f_law_special] [HasF T "_law_order" f_law_order] [HasF T "_law_lines" f_law_lines] [HasF T "jumps" f_o_jumps] [HasF T "_law_kind" f_law_kind] [HasF T "_law_equal" f_law_equal] [HasF T "calm_line" f_o_calm_line] [HasF T "lines" f_o_lines] [HasF T "add_lines" f_o_add_lines] [HasF T "free_items" f_o_free_items] [HasF T "under" f_o_under] (v_script : List Int) (hq : q_o_law v_script) {k : Nat} (hk : 61 ≤ k) : callF T k (Str.ofString "law") [.r v_script] = some (.ok ((rxV PyData.bool) (p_o_law v_script)) [.r v_script]) := by
  obtain ⟨k, rfl⟩ : ∃ k', k = k' + 1 := ⟨k - 1, by omega⟩
  unfold q_o_law at hq
  rw [callF_eq (HasF.e (T := T) (x := "law") (d := f_o_law))]
  exact fn_run (rx := (rxV PyData.bool)) rfl rfl (sj_tail
  (sj_assoc (sj_seq (ρ1 := [.r v_script, .v ((eL PyData.int) (p_o_law_draws v_script)), .un, .un, .un, .un, .un, .un]) (set_eq (EF.ew (ef_call (AV.ac (av_cons (EX.ew (ex_call (ac_r (i := 0) rfl (av_cons (EX.ew ex_c) av_nil)) (r_law_cell v_script (0 : Int) hq.1 (k := k) (by omega)))) (av_cons (EX.ew ex_c) av_nil))) (r_law_draws (p_law_cell v_script (0 : Int)) (60 : Int) hq.2.1 (k := k) (by omega)))) rfl rfl)
  (sj_assoc (sj_seq (ρ1 := [.r v_script, .v ((eL PyData.int) (p_o_law_draws v_script)), .v ((eT2 PyData.int (eT (eT2 PyData.int PyData.int))) (p_o_law_order v_script)), .un, .un, .un, .un, .un]) (set_eq (EX.ew (ex_call (AV.ac (av_cons (EX.ew (ex_v (i := 1) rfl)) (av_cons (EX.ew ex_c) av_nil))) (r_law_order (p_o_law_draws v_script) (6 : Int) hq.2.2.1 (k := k) (by omega)))) rfl rfl)
  (sj_assoc (sj_seq (ρ1 := [.r v_script, .v ((eL PyData.int) (p_o_law_draws v_script)), .v ((eT2 PyData.int (eT (eT2 PyData.int PyData.int))) (p_o_law_order v_script)), .v ((eL (eT PyData.int)) (p_o_law_rows v_script)), .un, .un, .un, .un]) (set_eq (EF.ew (ef_1 (EX.ev (ex_call (AV.ac (av_cons (EX.ew (ex_v (i := 2) rfl)) av_nil)) (r_law_lines (p_o_law_order v_script) hq.2.2.2.1 (k := k) (by omega)))) (wo_sortL (sr_tup (al_T al_int) (dp_T dp_int) fun _ => rfl) _))) rfl rfl)
  (sj_assoc (sj_seq (ρ1 := [.r v_script, .v ((eL PyData.int) (p_o_law_draws v_script)), .v ((eT2 PyData.int (eT (eT2 PyData.int PyData.int))) (p_o_law_order v_script)), .v ((eL (eT PyData.int)) (p_o_law_rows v_script)), .o false (.l (([]).map PyData.int)), .un, .un, .un]) (setO_eq (ef_lst av_nil) rfl rfl)
  (sj_assoc (sj_forF (enc := (eT PyData.int)) (l := (p_o_law_rows v_script)) (p_o_law_I_for v_script) (p_o_law_L v_script) ([]) (it_l (enc := (eT PyData.int)) (l := (p_o_law_rows v_script)) (ex_v (i := 3) rfl)) ⟨.un, rfl, rfl⟩
  (fun pre1 x1 post1 s1 r1 he1 hp1 hI => by
  obtain ⟨j1, rfl, hj1⟩ := hI
  exact ⟨[.r v_script, .v ((eL PyData.int) (p_o_law_draws v_script)), .v ((eT2 PyData.int (eT (eT2 PyData.int PyData.int))) (p_o_law_order v_script)), .v ((eL (eT PyData.int)) (p_o_law_rows v_script)), .o false (.l (s1.map PyData.int)), .v ((eT PyData.int) x1), .un, .un], (tg_v rfl (okJ hj1)), sj_tail (sj_seq (ρ1 := [.r v_script, .v ((eL PyData.int) (p_o_law_draws v_script)), .v ((eT2 PyData.int (eT (eT2 PyData.int PyData.int))) (p_o_law_order v_script)), .v ((eL (eT PyData.int)) (p_o_law_rows v_script)), .o false (.l ((p_o_law_counts v_script x1 s1).map PyData.int)), .v ((eT PyData.int) x1), .un, .un]) (app_eq (enc := PyData.int) (l := s1) (x := (((rngI 0 ((x1.length : Int) - (1 : Int)).toNat).filter fun (x2 : Int) => (!decide (((gtD x1 x2), (gtD x1 (x2 + (1 : Int)))) ∈ (p_o_law_order v_script).2))).length : Int)) rfl (EX.ew (ex_1 (EF.ev (ef_lcF (enc := PyData.int) (l := (rngI 0 ((x1.length : Int) - (1 : Int)).toNat)) (fun (x2 : Int) => (!decide (((gtD x1 x2), (gtD x1 (x2 + (1 : Int)))) ∈ (p_o_law_order v_script).2))) (own := [6]) (ρ2 := [.r v_script, .v ((eL PyData.int) (p_o_law_draws v_script)), .v ((eT2 PyData.int (eT (eT2 PyData.int PyData.int))) (p_o_law_order v_script)), .v ((eL (eT PyData.int)) (p_o_law_rows v_script)), .o false (.l (s1.map PyData.int)), .v ((eT PyData.int) x1), .un, .un]) (it_rng1 (ex_2 (EX.ev (ex_1 (EX.ev (ex_v (i := 5) rfl)) (wo_lenT (f := PyData.int) _))) (EX.ev ex_c) g_subI) (hq.2.2.2.2.1 pre1 x1 post1 s1 he1 hp1).1) rfl rfl rfl (fun x2 hx2 => ⟨[.r v_script, .v ((eL PyData.int) (p_o_law_draws v_script)), .v ((eT2 PyData.int (eT (eT2 PyData.int PyData.int))) (p_o_law_order v_script)), .v ((eL (eT PyData.int)) (p_o_law_rows v_script)), .o false (.l (s1.map PyData.int)), .v ((eT PyData.int) x1), .v (PyData.int x2), .un], (tg_v rfl rfl), (tv_b (ex_2 (EX.ev (ex_tup (av_cons (EX.ew (ex_2 (EX.ev (ex_v (i := 5) rfl)) (EX.ev (ex_v (i := 6) rfl)) (wo_ixT (f := PyData.int) (l := x1) (i := x2) ((hq.2.2.2.2.1 pre1 x1 post1 s1 he1 hp1).2.1 x2 hx2).1))) (av_cons (EX.ew (ex_2 (EX.ev (ex_v (i := 5) rfl)) (EX.ev (ex_2 (EX.ev (ex_v (i := 6) rfl)) (EX.ev ex_c) g_addI)) (wo_ixT (f := PyData.int) (l := x1) (i := (x2 + (1 : Int))) ((hq.2.2.2.2.1 pre1 x1 post1 s1 he1 hp1).2.1 x2 hx2).2))) av_nil)))) (EX.ev (ex_2 (EX.ev (ex_v (i := 2) rfl)) (EX.ev ex_c) (by rfl))) (wo_niT (eq_2 eq_int eq_int) (dp_2 dp_int dp_int) ((gtD x1 x2), (gtD x1 (x2 + (1 : Int)))) ((p_o_law_order v_script).2)))), fun hb1 => (EX.ew (ex_v (i := 6) rfl)), rfl⟩))) (wo_lenL (f := PyData.int) _))) (hq.2.2.2.2.1 pre1 x1 post1 s1 he1 hp1).2.2)
  (sj_nil ⟨.inl rfl, ⟨.v ((eT PyData.int) x1), rfl, rfl⟩⟩))⟩)
  (fun r1 hI => by
  obtain ⟨j2, rfl, hj2⟩ := hI
  exact (sj_assoc (sj_forS (enc := PyData.int) (l := (rngI 0 (8 : Int).toNat)) (P := (RQ (rxV PyData.bool))) ((p_o_law_I_for' v_script) ()) (RQ (rxV PyData.bool)) (p_o_law_L' v_script) ((p_law_equal ((eT PyData.int) (p_o_calm_line (p_o_law_order v_script))) ((eT PyData.int) (gtD (p_o_law_rows v_script) (((p_o_law_rcounts v_script).idxOf (minT PyData.int (p_o_law_rcounts v_script)) : Nat) : Int))))) (fun b => b) (it_rng1 ex_c (by decide)) ⟨j2, .un, .un, rfl, hj2, rfl, rfl⟩
  (fun pre2 x3 post2 r2 he2 hp2 hI => by
  obtain ⟨j3, j4, j5, rfl, hj3, hj4, hj5⟩ := hI
  exact ⟨[.r v_script, .v ((eL PyData.int) (p_o_law_draws v_script)), .v ((eT2 PyData.int (eT (eT2 PyData.int PyData.int))) (p_o_law_order v_script)), .v ((eL (eT PyData.int)) (p_o_law_rows v_script)), .o false (.l ((p_o_law_rcounts v_script).map PyData.int)), j3, .v (PyData.int x3), j5], (tg_v rfl (okJ hj4)), sj_tail (sj_assoc (sj_seq (ρ1 := [.r v_script, .v ((eL PyData.int) (p_o_law_draws v_script)), .v ((eT2 PyData.int (eT (eT2 PyData.int PyData.int))) (p_o_law_order v_script)), .v ((eL (eT PyData.int)) (p_o_law_rows v_script)), .o false (.l ((p_o_law_rcounts v_script).map PyData.int)), j3, .v (PyData.int x3), .v (PyData.int (p_o_law_at v_script x3))]) (set_eq (EX.ew (ex_2 (EX.ev (ex_2 (EX.ev (ex_v (i := 1) rfl)) (EX.ev (ex_2 (EX.ev ex_c) (EX.ev (ex_v (i := 6) rfl)) g_addI)) (wo_ixL (f := PyData.int) (l := (p_o_law_draws v_script)) (i := ((41 : Int) + x3)) (hq.2.2.2.2.2.1 pre2 x3 post2 he2 hp2).1))) (EX.ev (ex_1 (EX.ev (ex_v (i := 3) rfl)) (wo_lenL (f := (eT PyData.int)) _))) (wo_mod (hq.2.2.2.2.2.1 pre2 x3 post2 he2 hp2).2.1))) rfl (okJ hj5))
  (sj_if (SQ ((p_o_law_I_for' v_script) ()) (RQ (rxV PyData.bool))) ((some false)) (none) (tv_not (tv_tt (EX.ev (ex_call (AV.ac (av_cons (EX.ew (ex_call (AV.ac (av_cons (EX.ew (ex_v (i := 2) rfl)) (av_cons (EX.ew (ex_2 (EX.ev (ex_v (i := 3) rfl)) (EX.ev (ex_v (i := 7) rfl)) (wo_ixL (f := (eT PyData.int)) (l := (p_o_law_rows v_script)) (i := (p_o_law_at v_script x3)) (hq.2.2.2.2.2.1 pre2 x3 post2 he2 hp2).2.2.1))) av_nil))) (r_o_jumps (p_o_law_order v_script) (gtD (p_o_law_rows v_script) (p_o_law_at v_script x3)) (hq.2.2.2.2.2.1 pre2 x3 post2 he2 hp2).2.2.2.1 (k := k) (by omega)))) (av_cons (EX.ew (ex_2 (ev_o (i := 4) rfl) (EX.ev (ex_v (i := 7) rfl)) (wo_ixL (f := PyData.int) (l := (p_o_law_rcounts v_script)) (i := (p_o_law_at v_script x3)) (hq.2.2.2.2.2.1 pre2 x3 post2 he2 hp2).2.2.2.2.1))) av_nil))) (r_law_equal (PyData.int (p_o_jumps (p_o_law_order v_script) (gtD (p_o_law_rows v_script) (p_o_law_at v_script x3)))) (PyData.int (gtD (p_o_law_rcounts v_script) (p_o_law_at v_script x3))) (hq.2.2.2.2.2.1 pre2 x3 post2 he2 hp2).2.2.2.2.2 (k := k) (by omega)))) rfl))
  (fun hb2 => (sj_retX ex_c ⟨⟨_, rfl⟩, (.inl rfl)⟩))
  (fun hb3 => (sj_nils (sj_nil ⟨.inl rfl, ⟨j3, .v (PyData.int x3), .v (PyData.int (p_o_law_at v_script x3)), rfl, hj3, rfl, rfl⟩⟩))))))⟩)
  (fun r2 hn1 hI => by
  obtain ⟨j6, j7, j8, rfl, hj6, hj7, hj8⟩ := hI
  exact (sj_retX (ex_call (AV.ac (av_cons (EX.ew (ex_call (AV.ac (av_cons (EX.ew (ex_v (i := 2) rfl)) av_nil)) (r_o_calm_line (p_o_law_order v_script) (hq.2.2.2.2.2.2 hn1).1 (k := k) (by omega)))) (av_cons (EX.ew (ex_2 (EX.ev (ex_v (i := 3) rfl)) (EX.ev (ex_idx (f := PyData.int) (l := (p_o_law_rcounts v_script)) (x := (minT PyData.int (p_o_law_rcounts v_script))) eq_int dp_int (ev_o (i := 4) rfl) (EX.ev (ex_1 (ev_o (i := 4) rfl) (wo_minL al_int nn_int dp_int (hq.2.2.2.2.2.2 hn1).2.1))) (hq.2.2.2.2.2.2 hn1).2.2.1)) (wo_ixL (f := (eT PyData.int)) (l := (p_o_law_rows v_script)) (i := (((p_o_law_rcounts v_script).idxOf (minT PyData.int (p_o_law_rcounts v_script)) : Nat) : Int)) (hq.2.2.2.2.2.2 hn1).2.2.2.1))) av_nil))) (r_law_equal ((eT PyData.int) (p_o_calm_line (p_o_law_order v_script))) ((eT PyData.int) (gtD (p_o_law_rows v_script) (((p_o_law_rcounts v_script).idxOf (minT PyData.int (p_o_law_rcounts v_script)) : Nat) : Int))) (hq.2.2.2.2.2.2 hn1).2.2.2.2 (k := k) (by omega))) (.inl rfl)))
  (fun b fl ρ' _ h => h)))))))))))))))
/-- the law holds, once its typed form does -/
theorem good_of (h : ∀ ns : List Int, ns.length ≤ 63 → p_o_law ns = true ∧ q_o_law ns) : Good (callF T 200) := fun ns hn => by
  have e := r_o_law (T := T) ns (h ns hn).2 (k := 200) (by omega)
  rw [(h ns hn).1] at e
  exact ⟨_, e⟩
end


abbrev kk16 (J : List Int → Int) (x : List Int) : D := eT2 PyData.int (eT PyData.int) (J x, x)
theorem lt16 (J : List Int → Int) (x y : List Int) : PySem.W.dataLt (kk16 J x) (kk16 J y) = true ↔ J x < J y ∨ (J x = J y ∧ x < y) := by
  have e : PySem.W.dataLt (kk16 J x) (kk16 J y) = PySem.W.dataLt (.tuple [.int (J x), eT .int x]) (.tuple [.int (J y), eT .int y]) := rfl
  rw [e, PySem.W.dataLt_pair (by simp [PySem.W.alike]) (al_T al_int x y)]
  have e1 : PyData.eqv (.int (J x)) (.int (J y)) = decide (J x = J y) := eq_int _ _
  have e2 : PyData.eqv (eT .int x) (eT .int y) = decide (x = y) := (eq_T eq_int) _ _
  rw [e1, e2, PySem.W.dataLt_int]
  have e3 : PySem.W.dataLt (eT .int x) (eT .int y) = decide (x < y) := ltE_T x y
  rw [e3]
  by_cases h : J x = J y
  · rw [decide_eq_true h, if_pos rfl]
    by_cases h2 : x = y
    · subst h2
      simp [lt_irr]
    · rw [decide_eq_false h2]
      simp [h]
  · rw [decide_eq_false h, if_neg (by decide)]
    simp [h]
theorem arg16 (J : List Int → Int) : ∀ (l : List (List Int)) (b : List Int), (b :: l).Pairwise (· < ·) → argGo (kk16 J) b l ∈ b :: l ∧ ∀ y ∈ b :: l, J (argGo (kk16 J) b l) < J y ∨ (J (argGo (kk16 J) b l) = J y ∧ (argGo (kk16 J) b l = y ∨ argGo (kk16 J) b l < y))
  | [], b, _ => ⟨by simp [argGo], fun y hy => by rw [List.mem_singleton] at hy; subst hy; exact .inr ⟨rfl, .inl rfl⟩⟩
  | x :: l, b, hp => by
    obtain ⟨h1, h2⟩ := List.pairwise_cons.mp hp
    obtain ⟨h3, h4⟩ := List.pairwise_cons.mp h2
    have bx := h1 x (by simp)
    unfold argGo
    by_cases hc : PySem.W.dataLt (kk16 J x) (kk16 J b) = true
    · rw [if_pos hc]
      have hJ : J x < J b := by
        rcases (lt16 J x b).mp hc with h | ⟨_, h⟩
        · exact h
        · exact absurd (lt_tr h bx) (lt_irr _)
      obtain ⟨r1, r2⟩ := arg16 J l x h2
      refine ⟨List.mem_cons_of_mem _ r1, fun y hy => ?_⟩
      rcases List.mem_cons.mp hy with rfl | hy
      · have := r2 x (by simp)
        left
        rcases this with h | ⟨h, _⟩ <;> omega
      · exact r2 y hy
    · rw [if_neg hc]
      have hJ : J b ≤ J x := by
        by_cases h : J x < J b
        · exact absurd ((lt16 J x b).mpr (.inl h)) hc
        · omega
      obtain ⟨r1, r2⟩ := arg16 J l b (List.pairwise_cons.mpr ⟨fun a ha => h1 a (List.mem_cons_of_mem _ ha), h4⟩)
      refine ⟨?_, fun y hy => ?_⟩
      · rcases List.mem_cons.mp r1 with h | h
        · rw [h]; simp
        · exact List.mem_cons_of_mem _ (List.mem_cons_of_mem _ h)
      · rcases List.mem_cons.mp hy with rfl | hy
        · exact r2 y (by simp)
        · rcases List.mem_cons.mp hy with rfl | hy
          · rcases r2 b (by simp) with h | ⟨h, h'⟩
            · left; omega
            · rcases Int.lt_or_eq_of_le hJ with hlt | heq
              · left; omega
              · refine .inr ⟨by omega, .inr ?_⟩
                rcases h' with h' | h'
                · rw [h']; exact bx
                · exact lt_tr h' bx
          · exact r2 y (List.mem_cons_of_mem _ hy)
theorem idx_le16 {m : Int} : ∀ (l : List Int) (j : Nat) (h : j < l.length), l[j] = m → l.idxOf m ≤ j
  | [], j, h, _ => by simp at h
  | a :: l, 0, h, e => by
    have e : a = m := e
    rw [e, List.idxOf_cons_self]; omega
  | a :: l, j + 1, h, e => by
    have := idx_le16 l j (by simpa using h) (by simpa using e)
    rw [List.idxOf_cons]
    cases (a == m)
    · show List.idxOf m l + 1 ≤ j + 1; omega
    · show 0 ≤ j + 1; omega
/-- the first of the least -/
theorem first16 (J : List Int → Int) (R : List (List Int)) (hR : R.Pairwise (· < ·)) (hne : R ≠ []) : argK (kk16 J) R = gtD R ((((R.map J).idxOf (minT PyData.int (R.map J)) : Nat) : Int)) ∧ minT PyData.int (R.map J) ∈ R.map J ∧ (R.map J).idxOf (minT PyData.int (R.map J)) < R.length := by
  have hmne : R.map J ≠ [] := fun z => hne (by simpa using z)
  obtain ⟨m1, m2⟩ := minT_spec PyData.int hmne
  have hi : (R.map J).idxOf (minT PyData.int (R.map J)) < R.length := by
    have := List.idxOf_lt_length_iff.mpr m1
    rwa [List.length_map] at this
  refine ⟨?_, m1, hi⟩
  generalize hm : minT PyData.int (R.map J) = m at m1 m2 hi
  generalize hix : (R.map J).idxOf m = ix at hi ⊢
  have eg : gtD R ((ix : Nat) : Int) = R[ix] := by
    have := gtD_nat (l := R) (i := ((ix : Nat) : Int)) (by omega) (by omega)
    simpa using this
  rw [eg]
  have hJ : J R[ix] = m := by
    have h1 : (R.map J)[ix]'(by rw [List.length_map]; exact hi) = m := by
      subst hix
      exact List.getElem_idxOf _
    rw [List.getElem_map] at h1
    exact h1
  cases R with
  | nil => exact absurd rfl hne
  | cons b l =>
    obtain ⟨r1, r2⟩ := arg16 J l b hR
    show argGo (kk16 J) b l = _
    generalize argGo (kk16 J) b l = r at r1 r2
    obtain ⟨j, hj, er⟩ := List.mem_iff_getElem.mp r1
    have g1 := r2 (b :: l)[ix] (List.getElem_mem hi)
    have hr : m ≤ J r := by
      have := m2 (J r) (List.mem_map.mpr ⟨r, r1, rfl⟩)
      exact dle_int.mp this
    have e1 : J r = m := by rcases g1 with h | ⟨h, _⟩ <;> omega
    rcases g1 with h | ⟨_, h | h⟩
    · omega
    · exact h
    · -- r comes ahead of ix: its number is not below
      exfalso
      have hji : j < ix := by
        by_cases hlt : j < ix
        · exact hlt
        · rcases Nat.eq_or_lt_of_le (Nat.le_of_not_lt hlt) with e | e
          · subst e
            rw [er] at h
            exact (lt_irr _ h).elim
          · have := List.pairwise_iff_getElem.mp hR ix j hi hj e
            rw [er] at this
            exact (lt_irr _ (lt_tr this h)).elim
      have : (List.map J (b :: l)).idxOf m ≤ j := by
        have hjm : (List.map J (b :: l))[j]'(by rw [List.length_map]; exact hj) = m := by rw [List.getElem_map, er]; exact e1
        exact idx_le16 _ j _ hjm
      omega
theorem fold16 {α β : Type} (f : α → β) : ∀ (l : List α) (s : List β), l.foldl (fun s x => s ++ [f x]) s = s ++ l.map f
  | [], s => by simp
  | a :: l, s => by rw [List.foldl_cons, fold16 f l, List.map_cons, List.append_assoc]; rfl
theorem good : Good (callF T 200) := good_of fun ns hn => by
  have hd : Draws (p_o_law_draws ns) 60 := draws_of 60 (by omega)
  have hq : q_law_order (p_o_law_draws ns) 6 := ⟨⟨60, hd, by omega, by omega⟩, by omega, by omega⟩
  have ok : OrderOk 6 (p_o_law_order ns).1 (p_o_law_order ns).2 := (law_order_spec hq).1
  have er : p_o_law_rows ns = p_o_lines (p_o_law_order ns) := by
    unfold p_o_law_rows p_o_lines
    rw [srt_lt (law_lines_sorted _), law_lines_gr]
  have n1 := ok.n1; have n2 := ok.n2
  have hs : (p_o_law_rows ns).Pairwise (· < ·) := by rw [er]; exact gr_sorted _
  have hne : 0 < (p_o_law_rows ns).length := by
    have := law_lines_ne ok
    rw [er]; rw [law_lines_gr] at this; exact this
  have hne2 : p_o_law_rows ns ≠ [] := List.length_pos_iff.mp hne
  have ll : (p_o_law_rows ns).length ≤ 823543 := by rw [er]; exact Nat.le_trans (gr_few (by omega)) (Nat.le_trans (nmRows_len _ _) (pow_le7 (by omega) (by omega)))
  have rl : ∀ r ∈ p_o_law_rows ns, r.length ≤ 6 := fun r hr => by
    rw [er] at hr
    have := ((mem_gr _ _).mp hr).1; omega
  have fold : ∀ l : List (List Int), l.foldl (p_o_law_L ns) [] = l.map (p_o_jumps (p_o_law_order ns)) := fun l => by
    have := fold16 (p_o_jumps (p_o_law_order ns)) l []
    rw [List.nil_append] at this
    exact this
  have ec : p_o_law_rcounts ns = (p_o_law_rows ns).map (p_o_jumps (p_o_law_order ns)) := fold _
  have qj : ∀ r ∈ p_o_law_rows ns, q_o_jumps (p_o_law_order ns) r := fun r hr => by
    have := rl r hr
    refine ⟨by omega, fun x hx => ?_⟩
    rw [mem_rngI] at hx
    exact ⟨⟨by omega, by omega⟩, by omega, by omega⟩
  have at_ok : ∀ x : Int, InR (p_o_law_rows ns) (p_o_law_at ns x) ∧ 0 ≤ p_o_law_at ns x ∧ p_o_law_at ns x < (p_o_law_rows ns).length := fun x => by
    have h1 := Int.emod_nonneg (gtD (p_o_law_draws ns) (41 + x)) (b := ((p_o_law_rows ns).length : Int)) (by omega)
    have h2 := Int.emod_lt_of_pos (gtD (p_o_law_draws ns) (41 + x)) (b := ((p_o_law_rows ns).length : Int)) (by omega)
    unfold p_o_law_at
    exact ⟨⟨by omega, by omega⟩, h1, h2⟩
  obtain ⟨f1, f2, f3⟩ := first16 (p_o_jumps (p_o_law_order ns)) (p_o_law_rows ns) hs hne2
  have el : ∀ {a b : Int}, a = b → q_law_equal (PyData.int a) (PyData.int b) := fun {a b} e => eq_law (n := 0) (by rw [e]) (by omega) (okE_int _)
  have ecalm : p_o_calm_line (p_o_law_order ns) = gtD (p_o_law_rows ns) (((p_o_law_rcounts ns).idxOf (minT PyData.int (p_o_law_rcounts ns)) : Nat) : Int) := by
    rw [ec, ← f1, er]; rfl
  constructor
  · unfold p_o_law
    have : (rngI 0 (8 : Int).toNat).findSome? (p_o_law_L' ns) = none := List.findSome?_eq_none_iff.mpr fun x _ => rfl
    rw [this]; rfl
  · refine ⟨q_cell (by omega), ⟨by omega, by omega⟩, hq, q_law_lines_ok ok (by omega), fun pre x post s he hs2 => ?_, fun pre x post he hno => ?_, fun hno => ?_⟩
    · have hx : x ∈ p_o_law_rows ns := by rw [← he]; simp
      have hl := congrArg List.length he
      rw [List.length_append, List.length_cons] at hl
      obtain ⟨q1, q2⟩ := qj x hx
      exact ⟨q1, q2, by rw [hs2, fold, List.length_map]; omega⟩
    · have hx := mem_rngI.mp (show x ∈ rngI 0 (8 : Int).toNat by rw [← he]; simp)
      have := hd.1
      obtain ⟨a1, a2, a3⟩ := at_ok x
      exact ⟨⟨by omega, by omega⟩, by omega, a1, qj _ (gtD_mem a2 a3), by rw [ec]; unfold InR; rw [List.length_map]; exact a1, el (by rw [ec, gtD_map _ a2 a3])⟩
    · refine ⟨⟨⟨⟨6, ok⟩, by omega⟩, fun r hr => qj r (by rw [er]; exact hr), by rw [← er]; exact hne2⟩, by rw [ec]; simpa using hne2, by rw [ec]; exact f2, by rw [ec]; exact ⟨by omega, by omega⟩, eq_law (n := 1) (by rw [ecalm]) (by omega) (okE_T (fun a _ => okE_int a) ?_)⟩
      rw [ecalm]
      have hi : (p_o_law_rcounts ns).idxOf (minT PyData.int (p_o_law_rcounts ns)) < (p_o_law_rows ns).length := by rw [ec]; exact f3
      have := rl _ (gtD_mem (l := p_o_law_rows ns) (i := (((p_o_law_rcounts ns).idxOf (minT PyData.int (p_o_law_rcounts ns)) : Nat) : Int)) (by omega) (by omega))
      omega

end R
set_option maxRecDepth 100000
set_option maxHeartbeats 0
open PySem PySem.W PyProof.Rows
theorem PySem.Challenge.cw_orderwise_k16_jumps_and_calm_lines_holds : PySem.Challenge.rw_orderwise_k16_jumps_and_calm_lines.Holds := by
  w_on; o_law; k_head; (case hw => w_witness2)
  k_fill
  refine LamX.walk_ofTs (l := PySem.Challenge.rw_orderwise_k16_jumps_and_calm_lines) (n := 63) (k := 200) (x := (Str.ofString "script")) (CX := fun w => L2.CX PySem.Challenge.rw_orderwise_k16_jumps_and_calm_lines.prog w) rfl (by decide) rfl ⟨rfl, by decide, by decide⟩ (fun w h Y => PySem.W.km_in_of Y) ?F (fun _ _ _ _ _ h => R.no_CX h)
  case F =>
    intro w mg fa h Y KX G hmg
    refine' R.all_mk R.good KX G hmg ?a0 ?l0 ?c0 ?k0 ?a1 ?l1 ?c1 ?k1 ?a2 ?l2 ?c2 ?k2 ?a3 ?l3 ?c3 ?k3 ?a4 ?l4 ?c4 ?k4 ?a5 ?l5 ?c5 ?k5 ?a6 ?l6 ?c6 ?k6 ?a7 ?l7 ?c7 ?k7 ?a8 ?l8 ?c8 ?k8 ?a9 ?l9 ?c9 ?k9 ?a10 ?l10 ?c10 ?k10 ?a11 ?l11 ?c11 ?k11 ?a12 ?l12 ?c12 ?k12 ?a13 ?l13 ?c13 ?k13 ?a14 ?l14 ?c14 ?k14 ?a15 ?l15 ?c15 ?k15 ?z0 ?z1 ?z2 ?z3 ?z4 ?z5 ?z6 ?z7 ?z8 ?z9 ?z10 ?z11 ?w4 ?w0 ?w1 ?w2 ?w3 ?w5
    (case a0 => k_is)
    (case l0 => k_is)
    (case c0 => k_is)
    (case k0 => k_is)
    (case a1 => k_is)
    (case l1 => k_is)
    (case c1 => k_is)
    (case k1 => k_is)
    (case a2 => k_is)
    (case l2 => k_is)
    (case c2 => k_is)
    (case k2 => k_is)
    (case a3 => k_is)
    (case l3 => k_is)
    (case c3 => k_is)
    (case k3 => k_is)
    (case a4 => k_is)
    (case l4 => k_is)
    (case c4 => k_is)
    (case k4 => k_is)
    (case a5 => k_is)
    (case l5 => k_is)
    (case c5 => k_is)
    (case k5 => k_is)
    (case a6 => k_is)
    (case l6 => k_is)
    (case c6 => k_is)
    (case k6 => k_is)
    (case a7 => k_is)
    (case l7 => k_is)
    (case c7 => k_is)
    (case k7 => k_is)
    (case a8 => k_is)
    (case l8 => k_is)
    (case c8 => k_is)
    (case k8 => k_is)
    (case a9 => k_is)
    (case l9 => k_is)
    (case c9 => k_is)
    (case k9 => k_is)
    (case a10 => k_is)
    (case l10 => k_is)
    (case c10 => k_is)
    (case k10 => k_is)
    (case a11 => k_is)
    (case l11 => k_is)
    (case c11 => k_is)
    (case k11 => k_is)
    (case a12 => k_is)
    (case l12 => k_is)
    (case c12 => k_is)
    (case k12 => k_is)
    (case a13 => k_is)
    (case l13 => k_is)
    (case c13 => k_is)
    (case k13 => k_is)
    (case a14 => k_is)
    (case l14 => k_is)
    (case c14 => k_is)
    (case k14 => k_is)
    (case a15 => k_is)
    (case l15 => k_is)
    (case c15 => k_is)
    (case k15 => k_is)
    (case z0 => k_is)
    (case z1 => k_is)
    (case z2 => k_is)
    (case z3 => k_is)
    (case z4 => k_is)
    (case z5 => k_is)
    (case z6 => k_is)
    (case z7 => k_is)
    (case z8 => k_is)
    (case z9 => k_is)
    (case z10 => k_is)
    (case z11 => k_is)
    (case w4 => exact rfl)
    (case w0 => k_is)
    (case w1 => exact rfl)
    (case w2 => first | rfl | decide +kernel)
    (case w3 => first | rfl | decide +kernel)
    (case w5 => exact PySem.W.km_tabs_of Y _ (by first | exact List.mem_singleton.mpr rfl | decide))
