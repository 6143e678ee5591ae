import PyProof.Rows.All
import Wide.All
import OpenK.AllK
import Wide.FinOn
import PyProof.RulesMatch
import HandS.ForMost
import HandS.Codes
import HandS.Star
import HandS.IsInst
import HandS.TupAny
import HandS.Evl
import HandS.Walk
import HandS.Zip
import KE.GoesZip
import KE.GoesMore
import PySem.Challenge.RW_withinlimits_k03_sizes_and_places_of_par
set_option Elab.async false
set_option linter.all false
set_option maxRecDepth 100000
set_option maxHeartbeats 4000000
namespace L2
open PySem PySem.Spec PyProof.Rows

/-! ### match upon texts -/
section
variable {X : Cx}
/-- a pattern that asks a text -/
structure PPt (X : Cx) (p : Pattern) (f : Str → Bool) : Prop where
  run : ∀ (pins : List (Addr × Obj)) (s : Shared) (σ : L2.St) (H : Hp) (y : Str) (u : Value), Inv X pins σ H s → RelV (.str y) u →
    wpAny (model X.prog X.w) X.A (matchPattern p X.env u) (fun r s' => Inv X pins σ H s' ∧ r = if f y = true then some [] else none) X.xe s
structure PFs (X : Cx) (ps : List Pattern) (f : Str → Bool) : Prop where
  run : ∀ (pins : List (Addr × Obj)) (s : Shared) (σ : L2.St) (H : Hp) (y : Str) (u : Value), Inv X pins σ H s → RelV (.str y) u →
    wpAny (model X.prog X.w) X.A (matchFirst ps X.env u) (fun r s' => Inv X pins σ H s' ∧ r = if f y = true then some [] else none) X.xe s
structure PCs (X : Cx) (cs : List MatchCase) (t : V → TS) : Prop where
  run : ∀ (first : Bool) (pins : List (Addr × Obj)) (s : Shared) (σ : L2.St) (H : Hp) (D : Ends) (x : V) (u : Value), Inv X pins σ H s → RelV x u → t x D σ H →
    wpAny (model X.prog X.w) X.A (matchCases cs X.env u first) (SP X pins D) X.xe s
theorem pp_val {z : Str} {j p pos} : PPt X (.MatchValue (.Constant (.str z) j p) pos) (fun y => decide (y = z)) := by
  refine ⟨fun pins s σ H y u I r => ?_⟩
  refine wpAny_matchPattern_Value ?_
  refine thn (pe_str.run pins s σ H (fun v H' => v = .str z ∧ H' = H) I ⟨rfl, rfl⟩) fun x s1 ⟨v, H1, I1, r1, e1, e2⟩ => ?_
  subst e1 e2
  refine thn (op_eq pins s1 σ H1 (.str y) (.str z) u x (fun w H' => w = .bl (decide (V.str y = V.str z)) ∧ H' = H1) I1 r r1 ⟨rfl, rfl, rfl⟩) fun c s2 ⟨w, H2, I2, r2, e1, e2⟩ => ?_
  subst e1 e2
  cases r2
  refine wpAny_truthy_bool ?_
  by_cases h : y = z
  · subst h
    simp [I2]
  · simp [I2, h]
def fNil : Str → Bool := fun _ => false
def fOr (f g : Str → Bool) : Str → Bool := fun y => f y || g y
theorem pf_nil : PFs X [] fNil := ⟨fun pins s σ H y u I r => wpAny_matchFirst_nil ⟨I, rfl⟩⟩
theorem pf_cons {p : Pattern} {ps : List Pattern} {f g : Str → Bool} (h1 : PPt X p f) (h2 : PFs X ps g) : PFs X (p :: ps) (fOr f g) := by
  refine ⟨fun pins s σ H y u I r => ?_⟩
  refine wpAny_matchFirst_cons (thn (h1.run pins s σ H y u I r) fun o s1 ⟨I1, e⟩ => ?_)
  subst e
  cases hf : f y with
  | true => exact ⟨I1, by simp [fOr, hf]⟩
  | false =>
    refine thn (h2.run pins s1 σ H y u I1 r) fun o s2 ⟨I2, e⟩ => ⟨I2, ?_⟩
    subst e
    simp [fOr, hf]
theorem pp_or {ps : List Pattern} {pos : Pos} {f : Str → Bool} (h : PFs X ps f) (hn : namesOfAll (ps.take 1) = [] := by rfl) : PPt X (.MatchOr ps pos) f := by
  refine ⟨fun pins s σ H y u I r => ?_⟩
  refine wpAny_matchPattern_Or (thn (h.run pins s σ H y u I r) fun o s1 ⟨I1, e⟩ => ?_)
  subst e
  cases hf : f y with
  | true => exact ⟨I1, by simp [hn]⟩
  | false => exact ⟨I1, by simp⟩
def cNil : V → TS := fun _ D σ H => D.nx σ H
def cIf (f : Str → Bool) (t : TS) (r : V → TS) : V → TS := fun x D σ H => ∃ y, x = .str y ∧ if f y = true then t D σ H else r x D σ H
def cAny (t : TS) : V → TS := fun _ D σ H => t D σ H
theorem pcs_nil : PCs X [] cNil := ⟨fun _ _ _ σ H _ _ _ I _ h => wpAny_matchCases_nil ⟨σ, H, I, h⟩⟩
theorem pcs_cons {p : Pattern} {body : List Stmt} {rest : List MatchCase} {f : Str → Bool} {t : TS} {r : V → TS} (h1 : PPt X p f) (h2 : PSs X body t) (h3 : PCs X rest r) : PCs X (⟨p, none, body⟩ :: rest) (cIf f t r) := by
  refine ⟨fun first pins s σ H D x u I rx h => ?_⟩
  obtain ⟨y, rfl, h⟩ := h
  refine wpAny_matchCases_cons (thn (h1.run pins s σ H y u I rx) fun o s1 ⟨I1, e⟩ => ?_)
  subst e
  cases hf : f y with
  | true =>
    rw [hf] at h
    exact wpAny_assignInOrder_none (h2.run pins s1 σ H D I1 h)
  | false =>
    rw [hf] at h
    exact h3.run false pins s1 σ H D _ u I1 rx h
theorem pcs_any {body : List Stmt} {rest : List MatchCase} {pos : Pos} {t : TS} (h2 : PSs X body t) : PCs X (⟨.MatchAs none none pos, none, body⟩ :: rest) (cAny t) := by
  refine ⟨fun first pins s σ H D x u I rx h => ?_⟩
  refine wpAny_matchCases_cons (wpAny_matchPattern_Capture ?_)
  exact wpAny_assignInOrder_none (h2.run pins s σ H D I h)
def tMatch (te : TE) (t : V → TS) : TS := fun D σ H => te σ H fun x H1 => t x D σ H1
theorem ps_match {e : Expr} {cs : List MatchCase} {pos : Pos} {te : TE} {t : V → TS} (he : PE X e te) (h : PCs X cs t) : PS X (.Match e cs pos) (tMatch te t) := by
  refine ⟨fun pins s σ H D I hw => ?_⟩
  refine wpAny_Match (thn (he.run pins s σ H _ I hw) fun u s1 ⟨x, H1, I1, r1, q1⟩ => ?_)
  exact h.run true pins s1 σ H1 D x u I1 r1 q1
end
/-! ### int(n) of an int, of a bool -/
theorem CallR.imp {X : Cx} {f : Value} {r r' : List V → Hp → VK → Prop} (h : CallR X f r) (hi : ∀ xs H Q, r' xs H Q → r xs H Q) : CallR X f r' :=
  fun pins s σ H xs us Q I rv q => h pins s σ H xs us Q I rv (hi _ _ _ q)
theorem call_intI {X : Cx} : CallR X (.type "int") (fun xs H Q => ∃ i, xs = [.int i] ∧ Q (.int i) H) := CallR.imp call_int1 fun _ _ _ q => .inl q
theorem call_intB {X : Cx} : CallR X (.type "int") (fun xs H Q => ∃ k, xs = [.bl k] ∧ Q (.int (if k then 1 else 0)) H) := CallR.imp call_int1 fun _ _ _ q => .inr q
/-! ### loops and comprehensions: the walked thing apart from what is done with it -/
def ForB (J : It) (g : TG) (tb : TS) (D : Ends) (σ : L2.St) (H1 : Hp) : Prop := ∃ W : Nat → Nat → L2.St → Hp → Prop, (∃ m, W 0 m σ H1) ∧ ∀ i m σ H, W i m σ H →
  (J.stop i H ∧ D.nx σ H) ∨ (J.go i H ∧ ∃ N : L2.St → Hp → Prop, (∀ σ' H', N σ' H' → ∃ m', m' < m ∧ W (i + 1) m' σ' H') ∧ ∀ x H', J.yld i H x H' → g x σ H' fun σ2 H2 => tb { D with nx := N, ct := N, bk := D.nx } σ2 H2)
theorem tFor_eq {wi : TI} {g : TG} {tb : TS} {D : Ends} {σ : L2.St} {H : Hp} : tFor wi g tb D σ H = wi σ H fun J H1 => ForB J g tb D σ H1 := rfl
theorem forB {J : It} {n : Nat} {G : Hp → Prop} {Y : Nat → Hp → V → Hp → Prop} (w : Walk J n G Y) {g : TG} {tb : TS} {D : Ends} {σ : L2.St} {H : Hp} (Pv : Nat → L2.St → Hp → Prop) (h0 : Pv 0 σ H) (hG : ∀ i σ H, i ≤ n → Pv i σ H → G H)
    (hs : ∀ i x σ H H', i < n → Pv i σ H → Y i H x H' → g x σ H' fun σ2 H2 => tb { D with nx := Pv (i + 1), ct := Pv (i + 1), bk := D.nx } σ2 H2) (hd : ∀ σ H, Pv n σ H → D.nx σ H) : ForB J g tb D σ H := for_it w Pv h0 hG hs hd
def LcB (J : It) (g : TG) (tt : TT) (te : TE) (vs : List Nat) (σ : L2.St) (Q : VK) (H1 : Hp) : Prop := ∀ D, H1 D = none → ∃ W : Nat → Nat → Hp → Prop, (∃ m, W 0 m (upd H1 D (.lst []))) ∧ ∀ i m H, W i m H →
  (J.stop i H ∧ Q (.ref D) H) ∨ (J.go i H ∧ ∃ Nx : Hp → Prop, (∀ H', Nx H' → ∃ m', m' < m ∧ W (i + 1) m' H') ∧ ∀ x H', J.yld i H x H' → g x (wipe σ vs) H' fun σ2 H2 => wipe σ2 vs = wipe σ vs ∧ tt σ2 H2 fun b H3 =>
    if b = true then te σ2 H3 fun y H4 => ∃ acc, H4 D = some (.lst acc) ∧ acc.length < sizeLine ∧ Nx (upd H4 D (.lst (acc ++ [y]))) else Nx H3)
theorem tLc_eq {wi : TI} {g : TG} {tt : TT} {te : TE} {vs : List Nat} {σ : L2.St} {H : Hp} {Q : VK} : tLc wi g tt te vs σ H Q = wi σ H fun J H1 => LcB J g tt te vs σ Q H1 := rfl
theorem lcB {J : It} {n : Nat} {G : Hp → Prop} {Y : Nat → Hp → V → Hp → Prop} (w : Walk J n G Y) {g : TG} {tt : TT} {te : TE} {vs : List Nat} {σ : L2.St} {H1 : Hp} {Q : VK} (Pv : Addr → Nat → Hp → Prop) (h0 : ∀ D, H1 D = none → Pv D 0 (upd H1 D (.lst []))) (hG : ∀ D i H, i ≤ n → Pv D i H → G H)
    (hs : ∀ D i x H H', H1 D = none → i < n → Pv D i H → Y i H x H' → g x (wipe σ vs) H' fun σ2 H2 => wipe σ2 vs = wipe σ vs ∧ tt σ2 H2 fun b H3 =>
      if b = true then te σ2 H3 fun y H4 => ∃ acc, H4 D = some (.lst acc) ∧ acc.length < sizeLine ∧ Pv D (i + 1) (upd H4 D (.lst (acc ++ [y]))) else Pv D (i + 1) H3) (hd : ∀ D H, H1 D = none → Pv D n H → Q (.ref D) H) : LcB J g tt te vs σ Q H1 :=
  fun D hD => lc_it w (Pv D) (h0 D hD) (hG D) (fun i x H H' hi p y => hs D i x H H' hD hi p y) (fun H p => hd D H hD p)
/-- a list or a tuple is walked; is read by a place -/
def iLT (K : PySem.W.Frag) (tl : TE) : TI := fun σ H R => tl σ H fun x H1 => ∃ a, x = .ref a ∧ ((∃ xs, SqL K H1 a xs) ∧ R (Itl K a) H1 ∨ (∃ xs, SqT K H1 a xs) ∧ R (Itt K a) H1)
theorem ix_lt {X : Cx} : IxR X (fun x y H Q => rIxL X.K x y H Q ∨ rIxT X.K x y H Q) := IxR.or ix_list ix_tup
/-! ### new objects, the heap behind them told by what it keeps -/
def NewA (H : Hp) (o : HO) (Q : VK) : Prop := ∀ p H2, H p = none → Same H H2 → H2 p = some o → Q (.ref p) H2
theorem NewA.at {H : Hp} {o : HO} {Q : VK} (h : NewA H o Q) : ∀ p, H p = none → Q (.ref p) (upd H p o) := fun p hp =>
  h p _ hp (fun b u q => by rw [upd_ne (ne_of_none q hp)]; exact q) upd_same
section
variable {X : Cx}
def tTupA (t : TA) : TE := fun σ H Q => t σ H fun xs H1 => xs.length ≤ sizeLine ∧ NewA H1 (.tup xs) Q
def tLstA (t : TA) : TE := fun σ H Q => t σ H fun xs H1 => xs.length ≤ sizeLine ∧ NewA H1 (.lst xs) Q
theorem pe_tupA {es : List Expr} {t : TA} {x1} {pos : Pos} (h : PA X es t) : PE X (.Tuple es x1 pos) (tTupA t) := by
  refine ⟨fun pins s σ H Q I hq => ?_⟩
  refine wpAny_Tuple_spliced (thn (h.run pos pins s σ H _ I hq) fun us s1 ⟨xs, H1, I1, r, z, q⟩ => ⟨by rw [← r.length]; exact z, ?_⟩)
  have hf : H1 s1.heap.objs.size = none := I1.hok.fresh (Nat.le_refl _)
  refine ⟨.ref s1.heap.objs.size, upd H1 s1.heap.objs.size (.tup xs), I1.laid (t' := s1.toks) (fun b u e => Heap.get?_push_of_some _ e) (Nat.le_refl _) ?_, rfl, q.at _ hf⟩
  exact ⟨z, us, r, ⟨_, Heap.get?_push_size _ rfl, rfl, _, rfl⟩⟩
theorem pe_lstA {es : List Expr} {t : TA} {pos : Pos} (h : PA X es t) : PE X (.List es pos) (tLstA t) := by
  refine ⟨fun pins s σ H Q I hq => ?_⟩
  refine wpAny_List_spliced (thn (h.run pos pins s σ H _ I hq) fun us s1 ⟨xs, H1, I1, r, z, q⟩ => ⟨by rw [← r.length]; exact z, ?_⟩)
  have hf : H1 s1.heap.objs.size = none := I1.hok.fresh (Nat.le_refl _)
  refine ⟨.ref s1.heap.objs.size, upd H1 s1.heap.objs.size (.lst xs), I1.laid (t' := s1.toks) (fun b u e => Heap.get?_push_of_some _ e) (Nat.le_refl _) ?_, rfl, q.at _ hf⟩
  exact ⟨z, us, 0, r, Heap.get?_push_size _ rfl⟩
theorem OpR.imp {f : Value → Value → Sem Value} {r r' : R2} (h : OpR X f r) (hi : ∀ x y H Q, r' x y H Q → r x y H Q) : OpR X f r' := fun pins s σ H x y v u Q I rx ry q => h pins s σ H x y v u Q I rx ry (hi _ _ _ _ q)
theorem SlR.imp {r r' : V → Option Int → Option Int → Hp → VK → Prop} (h : SlR X r) (hi : ∀ x lo hi H Q, r' x lo hi H Q → r x lo hi H Q) : SlR X r' := fun pins s σ H x v vl vu lo hi' sl Q I rx hs pl pu q => h pins s σ H x v vl vu lo hi' sl Q I rx hs pl pu (hi _ _ _ _ _ q)
def rCatL (K : PySem.W.Frag) : R2 := fun x y H Q => ∃ l b xs zs, x = .ref l ∧ y = .ref b ∧ H l = some (.lst xs) ∧ H b = some (.lst zs) ∧ xs.length + zs.length ≤ sizeLine ∧ NewA H (.lst (xs ++ zs)) Q
theorem op_catL (K : PySem.W.Frag) : OpR X (binaryOp .Add) (rCatL K) := OpR.imp op_cat fun x y H Q ⟨l, b, xs, zs, e1, e2, h1, h2, z, q⟩ => ⟨l, b, xs, zs, e1, e2, h1, h2, z, q.at⟩
def rRepL : R2 := fun x y H Q => ∃ l k xs, x = .ref l ∧ y = .int k ∧ H l = some (.lst xs) ∧ -(2 ^ 63) ≤ k ∧ k < 2 ^ 63 ∧ xs.length * k.toNat ≤ sizeLine ∧ NewA H (.lst (List.replicate k.toNat xs).flatten) Q
theorem op_repL : OpR X (binaryOp .Mult) rRepL := OpR.imp op_rep fun x y H Q ⟨l, k, xs, e1, e2, h1, h2, h3, z, q⟩ => ⟨l, k, xs, e1, e2, h1, h2, h3, z, q.at⟩
end
/-! ### rules with the written part told (inside a comprehension) -/
section
variable {X : Cx} (K : PySem.W.Frag) (hK : X.K = K := by rfl)
include hK
theorem kix_list : IxR X (rIxL K) := hK ▸ ix_list
theorem kix_tup : IxR X (rIxT K) := hK ▸ ix_tup
theorem kix_lt : IxR X (fun x y H Q => rIxL K x y H Q ∨ rIxT K x y H Q) := hK ▸ ix_lt
theorem kop_in_seq : OpR X (compareOp .In) (rIn K false) := hK ▸ op_in_seq
theorem kop_notIn_seq : OpR X (compareOp .NotIn) (rIn K true) := hK ▸ op_notIn_seq
theorem kop_eqD (hu : X.A.units + 64 < cLine) : OpR X (compareOp .Eq) (rEqD K) := hK ▸ op_eqD hu
theorem kop_neD (hu : X.A.units + 64 < cLine) : OpR X (compareOp .NotEq) (rNeD K) := hK ▸ op_neD hu
omit hK in
def rCatTA : R2 := fun x y H Q => ∃ a b xs ys, x = .ref a ∧ y = .ref b ∧ SqT K H a xs ∧ SqT K H b ys ∧ xs.length + ys.length ≤ sizeLine ∧ ∀ p H2, Same H H2 → SqT K H2 p (xs ++ ys) → Q (.ref p) H2
theorem kop_catA : OpR X (binaryOp .Add) (rCatTA K) := hK ▸ OpR.imp op_catA fun x y H Q ⟨a, b, xs, ys, e1, e2, h1, h2, z, q⟩ => ⟨a, b, xs, ys, e1, e2, h1, h2, z,
  fun e => q b H (Same.refl H) (by rw [e, List.nil_append]; exact h2), fun _ e => q a H (Same.refl H) (by rw [e, List.append_nil]; exact h1),
  fun _ _ p hp => q p _ (fun c u w => by rw [upd_ne (ne_of_none w hp)]; exact w) (SqT.of upd_same)⟩
omit hK in
def rSlLA : V → Option Int → Option Int → Hp → VK → Prop := fun x lo hi H Q => ∃ a xs, x = .ref a ∧ SqL K H a xs ∧ NewA H (.lst (cutV xs lo hi)) Q
theorem ksl_list : SlR X (rSlLA K) := hK ▸ SlR.imp sl_list fun x lo hi H Q ⟨a, xs, e, h, q⟩ => ⟨a, xs, e, h, q.at⟩
omit hK in
def rSlTA : V → Option Int → Option Int → Hp → VK → Prop := fun x lo hi H Q => ∃ a xs, x = .ref a ∧ SqT K H a xs ∧ ∀ p H2, Same H H2 → SqT K H2 p (cutV xs lo hi) → Q (.ref p) H2
theorem ksl_tupA : SlR X (rSlTA K) := hK ▸ SlR.imp sl_tupA fun x lo hi H Q ⟨a, xs, e, h, q⟩ => ⟨a, xs, e, h,
  fun ⟨c1, c2⟩ => q a H (Same.refl H) (by unfold cutV; rw [c1, c2, List.drop_zero, Nat.sub_zero, List.take_length]; exact h), fun _ p hp => q p _ (fun c u w => by rw [upd_ne (ne_of_none w hp)]; exact w) (SqT.of upd_same)⟩
theorem kcall_len_seq : CallR X (.builtin "len") (fun xs H Q => ∃ p ys, xs = [.ref p] ∧ (SqL K H p ys ∨ SqT K H p ys) ∧ Q (.int ys.length) H) := hK ▸ call_len_seq
theorem kcall_list_of : CallR X (.type "list") (fun xs H Q => ∃ p ys, xs = [.ref p] ∧ (SqL K H p ys ∨ SqT K H p ys) ∧ NewA H (.lst ys) Q) := hK ▸ CallR.imp call_list_of fun xs H Q ⟨p, ys, e, h, q⟩ => ⟨p, ys, e, h, q.at⟩
theorem kcall_tuple_of : CallR X (.type "tuple") (fun xs H Q => ∃ p ys, xs = [.ref p] ∧ (SqL K H p ys ∨ SqT K H p ys) ∧ ∀ t H2, Same H H2 → SqT K H2 t ys → Q (.ref t) H2) := hK ▸ CallR.imp call_tuple_of fun xs H Q ⟨p, ys, e, h, q⟩ => ⟨p, ys, e, h.elim (fun h => .inl ⟨h, fun l hl => q l _ (fun c u w => by rw [upd_ne (ne_of_none w hl)]; exact w) (SqT.of upd_same)⟩) fun h => .inr ⟨h, q p H (Same.refl H) h⟩⟩
theorem kcr_sum (hc : X.calm = true) : CallR X (.builtin "sum") (rSum K) := hK ▸ cr_sum hc
theorem kcr_max (hc : X.calm = true) : CallR X (.builtin "max") (rMax K) := hK ▸ cr_max hc
theorem kcr_min (hc : X.calm = true) : CallR X (.builtin "min") (rMin K) := hK ▸ cr_min hc
theorem kcall_isi : CallR X (.builtin "isinstance") (rIsi K) := hK ▸ call_isi
theorem kcall_isiT : CallR X (.builtin "isinstance") (rIsiT K) := hK ▸ call_isiT
end
section
variable {X : Cx} (K : PySem.W.Frag)
theorem kpg_tup {es : List Expr} {k : Nat} {t : TGs} {n : Nat} {pos : Pos} (hc : X.calm = true) (h : PGs X es t) (hK : X.K = K := by rfl)
    (hn : (assignEach es X.env).length = n := by rfl) (hst : (assignEach es X.env).findIdx? (·.1) = none := by rfl) : PG X (.Tuple es k pos) (gTup K n t) := hK ▸ pg_tup hc h hn hst
theorem kpi_list {tg e : Expr} {te : TE} (h : PE X e te) (hK : X.K = K := by rfl) : PI X tg e (iList K te) := hK ▸ pi_list h
theorem kpi_tup {tg e : Expr} {te : TE} (h : PE X e te) (hK : X.K = K := by rfl) : PI X tg e (iTup K te) := hK ▸ pi_tup h
theorem kpa_star {e : Expr} {es : List Expr} {te : TE} {t : TA} {p : Pos} (he : PE X e te) (hr : PA X es t) (hK : X.K = K := by rfl) (hs : starEach (.Starred e p :: es) X.env = (true, eval e X.env) :: starEach es X.env := by rfl) : PA X (.Starred e p :: es) (StX.tStar K te t) := hK ▸ StX.pa_star he hr hs
end
theorem cxOf_K {CX P w K mg base N q sc f cd A outer s H E} : (cxOf CX P w K mg base N q sc f cd A outer s H E).K = K := rfl
end L2

set_option Elab.async false
set_option linter.all false
set_option maxRecDepth 100000
set_option maxHeartbeats 4000000
namespace L2
open PySem PySem.Spec PyProof.Rows
/-! ### zip of a tuple and a list -/
def ItzM (K : PySem.W.Frag) (a b : Addr) : It where
  go := fun i H => ∃ (us vs : List V) (x y : V), (SqT K H a us ∧ us[i]? = some x) ∧ SqL K H b vs ∧ vs[i]? = some y
  yld := fun i H v G => ∃ (T : Addr) (x y : V), (v = .ref T ∧ H T = none) ∧ G = upd H T (.tup [x, y]) ∧ (∀ us, SqT K H a us → us[i]? = some x) ∧ ∀ vs, SqL K H b vs → vs[i]? = some y
  stop := fun i H => ∃ us vs : List V, SqT K H a us ∧ SqL K H b vs ∧ (us.length = i ∧ i ≤ vs.length ∨ vs.length = i ∧ i ≤ us.length)
theorem sep_of {z p q i1 i2 a b : Addr} (D : ZipApart z p q i1 i2 a b) : ZipSep2 z p q i1 i2 [i1, a] [i2, b] where
  TIz := D.TIz
  TOz := D.TOz
  TITO := D.TITO
  TIi1 := D.TIi1
  TIi2 := D.TIi2
  mem1 := by simp
  mem2 := by simp
  zf1 := by simp; exact ⟨fun e => D.i1z e.symm, fun e => D.l1z e.symm⟩
  zf2 := by simp; exact ⟨fun e => D.i2z e.symm, fun e => D.l2z e.symm⟩
  Tf1 := by simp; exact ⟨fun e => D.TOi1 e, fun e => D.l1TO e.symm⟩
  Tf2 := by simp; exact ⟨fun e => D.TOi2 e, fun e => D.l2TO e.symm⟩
  sep1_2 := by simp; exact ⟨fun e => D.i12 e, fun e => D.l2i1 e.symm⟩
  sep2_1 := by simp; exact ⟨fun e => D.i12 e.symm, fun e => D.l1i2 e.symm⟩
theorem turn_zipM {P : Program} {w : World} {K : PySem.W.Frag} {elts : List Expr} {kk : Nat} {tp : Pos} {a b z p q i1 i2 : Addr} (D : ZipApart z p q i1 i2 a b) :
    Turn P w K (.Tuple elts kk tp) (ItzM K a b) [z, p, q, i1, i2] z (fun i h => (IsZip h z p q .none ∧ IsTupOf2 h p (.ref i1) (.ref i2)) ∧ (∃ x y, IsTupOf2 h q x y) ∧ h.IsTupleIter i1 a i ∧ h.IsListIter i2 b i) where
  mem := List.mem_cons_self ..
  obj := by
    rintro i h ⟨⟨c1, c2⟩, ⟨x, y, c3⟩, ⟨o4, c4, _, d4⟩, o5, c5, _, d5⟩ c hc
    simp only [List.mem_cons, List.not_mem_nil, or_false] at hc
    rcases hc with rfl | rfl | rfl | rfl | rfl
    · exact ⟨_, c1, fun v e => nomatch e⟩
    · exact ⟨_, c2, fun v e => nomatch e⟩
    · exact ⟨_, c3, fun v e => nomatch e⟩
    · exact ⟨_, c4, fun v e => by rw [d4] at e; cases e⟩
    · exact ⟨_, c5, fun v e => by rw [d5] at e; cases e⟩
  keep := by
    rintro i h h' ⟨⟨c1, c2⟩, ⟨x, y, c3⟩, c4, c5⟩ k
    refine ⟨⟨k z (by simp) _ c1, k p (by simp) _ c2⟩, ⟨x, y, k q (by simp) _ c3⟩, c4.at fun o e => k i1 (by simp) o e, c5.at fun o e => k i2 (by simp) o e⟩
  item := by
    rintro X rfl rfl rfl hc i pins s σ H E I hf ⟨⟨c1, c2⟩, ⟨x0, y0, c3⟩, c4, c5⟩ ⟨us, vs, x, y, ⟨hu, hx⟩, hv, hy⟩
    obtain ⟨its, r1, p1, _⟩ := I.tuple hu
    obtain ⟨ivs, r2, p2, _⟩ := I.list hv
    obtain ⟨m1, e1, rx⟩ := r1.get hx
    obtain ⟨m2, e2, ry⟩ := r2.get hy
    have hd0 : X.A.in1.handled = none := I.ok.hd hc
    have g1 := (List.getElem?_eq_some_iff.mp e1).1
    have g2 := (List.getElem?_eq_some_iff.mp e2).1
    refine wpAny_pyNext_zipD2_item (sep_of D) (Draws.tuple hd0 i1 a D.l1i1 its.toArray) (Draws.list hd0 i2 b D.l2i2 ivs.toArray) c1 c2 c3 ⟨c4, p1⟩ ⟨c5, p2.isList⟩ (by simpa using g1) (by simpa using g2) ?_
    intro x1 x2 h' tk q1 q2 z' q' s1 s2 hT hsz hk
    have ex1 : x1 = m1 := by simpa [e1] using q1.symm
    have ex2 : x2 = m2 := by simpa [e2] using q2.symm
    subst ex1 ex2
    have zlt : z < s.heap.objs.size := Heap.lt_size c1
    refine ⟨_, rfl, wpAny_letOwnedTupleGo_zip (s := { s with heap := h', toks := tk }) z' fun h2 z2 sb => ?_⟩
    have hT2 := (sb.2 _ (Nat.ne_of_gt zlt)).trans hT
    have J : Inv X pins σ (upd H s.heap.objs.size (.tup [x, y])) { s with heap := h2, toks := tk } := by
      refine I.turnedNew (ch := [z, p, q, i1, i2]) (fun c o hcm e => ?_) hf (Nat.le_refl _) ⟨by show 2 ≤ sizeLine; decide, [x1, x2], .cons rx (.cons ry .nil), _, hT2, rfl, _, rfl⟩
      simp only [List.mem_cons, List.not_mem_nil, or_false, not_or] at hcm
      exact (sb.2 c hcm.1).trans (hk c o hcm.1 hcm.2.2.1 hcm.2.2.2.1 hcm.2.2.2.2 e)
    refine ⟨.ref s.heap.objs.size, _, J, rfl, ⟨_, x, y, ⟨rfl, I.hok.fresh (Nat.le_refl _)⟩, rfl, fun l hl => ?_, fun l hl => ?_⟩, ⟨⟨z2, ?_⟩, ⟨x1, x2, ?_⟩, ?_, ?_⟩, fun c hcm => ?_⟩
    · rw [I.tuple_inj hl hu]; exact hx
    · rw [I.list_inj hl hv]; exact hy
    · exact (sb.2 _ D.TIz).trans (hk _ _ D.TIz D.TITO D.TIi1 D.TIi2 c2)
    · exact (sb.2 _ D.TOz).trans q'
    · exact s1.1.at fun o e => (sb.2 _ D.i1z).trans e
    · exact s2.1.at fun o e => (sb.2 _ D.i2z).trans e
    · have hlt : c < s.heap.objs.size := by
        simp only [List.mem_cons, List.not_mem_nil, or_false] at hcm
        rcases hcm with rfl | rfl | rfl | rfl | rfl
        · exact zlt
        · exact Heap.lt_size c2
        · exact Heap.lt_size c3
        · obtain ⟨_, e, _⟩ := c4; exact Heap.lt_size e
        · obtain ⟨_, e, _⟩ := c5; exact Heap.lt_size e
      rw [upd_ne (Nat.ne_of_lt hlt)]
      exact (hf c hcm).1
  done := by
    rintro X rfl rfl rfl hc i pins s σ H E I hf ⟨⟨c1, c2⟩, ⟨x0, y0, c3⟩, c4, c5⟩ ⟨us, vs, hu, hv, hend⟩
    obtain ⟨its, r1, p1, _⟩ := I.tuple hu
    obtain ⟨ivs, r2, p2, _⟩ := I.list hv
    have hd0 : X.A.in1.handled = none := I.ok.hd hc
    have l1 := r1.length
    have l2 := r2.length
    refine wpAny_pyNext_zipD2_end (sep_of D) (Draws.tuple hd0 i1 a D.l1i1 its.toArray) (Draws.list hd0 i2 b D.l2i2 ivs.toArray) c1 c2 c3 ⟨c4, p1⟩ ⟨c5, p2.isList⟩ ?_ ?_ ?_ fun h' tk hk => ⟨rfl, ?_⟩
    · simp; omega
    · simp; omega
    · simp; omega
    · refine I.turnedL (ch := [z, p, q, i1, i2]) (fun c o hcm e => ?_) hf
      simp only [List.mem_cons, List.not_mem_nil, or_false, not_or] at hcm
      exact hk c o hcm.1 hcm.2.2.1 hcm.2.2.2.1 hcm.2.2.2.2 e
  self := fun A i s Q E st h => wpAny_pyIter_zip st.1.1 h
def iZipM (K : PySem.W.Frag) (ta : TA) : TI := fun σ H R => ta σ H fun vs H1 => ∃ a b us ws, vs = [.ref a, .ref b] ∧ SqT K H1 a us ∧ SqL K H1 b ws ∧ R (ItzM K a b) H1
theorem pi_zipM {X : Cx} (K : PySem.W.Frag) {e1 e2 : Expr} {ta : TA} {p pos tp : Pos} {elts : List Expr} {kk : Nat} (hg : Gl X "zip") (hm : X.mg "zip" = none) (ha : PA X [e1, e2] ta) (hK : X.K = K := by rfl)
    (hs : starEach [e1, e2] X.env = (false, eval e1 X.env) :: starEach [e2] X.env := by rfl) (hpl : (backTo pos (starEach [e2] X.env)).any (·.1) = false := by rfl) :
    PI X (.Tuple elts kk tp) (.Call (.Name "zip" p) [e1, e2] [] pos) (iZipM K ta) := by
  subst hK
  refine ⟨fun pins s σ H R I h => Call_ (ld_blt I hg hm PyProof.Rows.boot_zip (PyProof.Rows.callWith_type1 (thn (ha.run pos pins s σ H _ I h) fun ms s1 ⟨vs, H1, I1, r1, q1⟩ => ?_) hs hpl))⟩
  obtain ⟨a, b, us, ws, rfl, hu, hw, q1⟩ := q1
  obtain ⟨m1, rest, rfl, ra, rr⟩ : ∃ m rest, ms = m :: rest ∧ RelV (.ref a) m ∧ Vals [.ref b] rest := by
    cases r1 with
    | cons r rr => exact ⟨_, _, rfl, r, rr⟩
  obtain ⟨m2, rfl, rb⟩ : ∃ m, rest = [m] ∧ RelV (.ref b) m := by
    cases rr with
    | cons r rr => cases rr; exact ⟨_, rfl, r⟩
  cases ra
  cases rb
  obtain ⟨its, rv1, p1, _⟩ := I1.tuple hu
  obtain ⟨ivs, rv2, p2, _⟩ := I1.list hw
  obtain ⟨o1, ho1, _⟩ := id p1
  refine zip_begins2 (begins_tuple a its.toArray) (begins_list b ivs.toArray) p1 p2.isList fun h' hz hp hq h1 h2 hsz hk => wpAny_pyIter_zip hz ?_
  refine ⟨s1.heap.objs.size + 4, [s1.heap.objs.size + 4, s1.heap.objs.size + 2, s1.heap.objs.size + 3, s1.heap.objs.size, s1.heap.objs.size + 1], _, _, H1, rfl, I1.kept (t' := s1.toks) hk, turn_zipM (PySem.W.ktu_apart s1.heap.objs.size a b (Heap.lt_size ho1) p2.lt), ⟨⟨hz, hp⟩, ⟨_, _, hq⟩, ⟨_, h1, rfl, rfl⟩, ⟨_, h2, rfl, rfl⟩⟩, fun c hc => ?_, q1⟩
  have hle : s1.heap.objs.size ≤ c := by
    simp only [List.mem_cons, List.not_mem_nil, or_false] at hc
    rcases hc with e | e | e | e | e <;> rw [e] <;> first | exact Nat.le_refl _ | exact Nat.le_add_right _ _
  exact I1.fpOk hle (I1.hok.fresh hle)
theorem walk_zipM {K : PySem.W.Frag} {a b : Addr} {us ws : List V} {n : Nat} (h1 : us.length = n) (h2 : ws.length = n) : Walk (ItzM K a b) n (fun H => SqT K H a us ∧ SqL K H b ws) (YPair (fun i => us[i]?) (fun i => ws[i]?)) where
  goes := fun i H hi ⟨hu, hw⟩ => ⟨us, ws, us[i], ws[i], ⟨hu, by simp⟩, hw, by simp⟩
  stops := fun H ⟨hu, hw⟩ => ⟨us, ws, hu, hw, .inl ⟨h1, by omega⟩⟩
  yields := fun i H x H' hi ⟨hu, hw⟩ ⟨T, x', y', ⟨e1, e2⟩, e3, e4, e5⟩ => ⟨T, x', y', e1, e2, e3, e4 _ hu, e5 _ hw⟩
end L2

set_option Elab.async false
set_option linter.all false
set_option maxRecDepth 100000
set_option maxHeartbeats 4000000
namespace L2
open PySem PySem.Spec PyProof.Rows

/-! ### heaps that grow; heaps that change at a few places -/
theorem same_new {H : Hp} {p : Addr} (h : H p = none) (o : HO) : Same H (upd H p o) := fun b u q => by rw [upd_ne (ne_of_none q h)]; exact q
theorem same_newT {H H1 : Hp} {p : Addr} (g : Same H H1) (h : H1 p = none) (o : HO) : Same H (upd H1 p o) := g.trans (same_new h o)
/-- an object that H does not know may change -/
theorem same_mut {H H1 : Hp} {p : Addr} (g : Same H H1) (h : H p = none) (o : HO) : Same H (upd H1 p o) := fun b u q => by rw [upd_ne (ne_of_none q h)]; exact g b u q
/-- all but the objects of M stay -/
def Keep (M : List Addr) (H H' : Hp) : Prop := ∀ b o, b ∉ M → H b = some o → H' b = some o
theorem Keep.refl (M : List Addr) (H : Hp) : Keep M H H := fun _ _ _ h => h
theorem Keep.trans {M : List Addr} {H H1 H2 : Hp} (a : Keep M H H1) (b : Keep M H1 H2) : Keep M H H2 := fun c o hc h => b c o hc (a c o hc h)
theorem Same.keep {M : List Addr} {H H' : Hp} (s : Same H H') : Keep M H H' := fun b o _ h => s b o h
theorem Keep.mono {M N : List Addr} {H H' : Hp} (k : Keep M H H') (h : ∀ b ∈ M, b ∈ N) : Keep N H H' := fun b o hb e => k b o (fun z => hb (h b z)) e
theorem keep_upd {M : List Addr} {H H1 : Hp} {p : Addr} (k : Keep M H H1) (h : p ∈ M) (o : HO) : Keep M H (upd H1 p o) := fun b u hb e => by
  have : b ≠ p := fun z => hb (z ▸ h)
  rw [upd_ne this]; exact k b u hb e
theorem keep_new {M : List Addr} {H H1 : Hp} {p : Addr} (k : Keep M H H1) (h : H p = none) (o : HO) : Keep M H (upd H1 p o) := fun b u hb e => by
  rw [upd_ne (ne_of_none e h)]; exact k b u hb e
theorem Keep.none {M : List Addr} {H H1 : Hp} {p : Addr} (k : Keep M H H1) (hp : p ∉ M) (h : H1 p = none) : H p = none := by
  cases q : H p with
  | none => rfl
  | some o => rw [k p o hp q] at h; cases h
/-- tuples stay -/
def TSame (H H' : Hp) : Prop := ∀ b xs, Rd H b (.tup xs) → Rd H' b (.tup xs)
theorem TSame.refl (H : Hp) : TSame H H := fun _ _ h => h
theorem TSame.trans {H H1 H2 : Hp} (a : TSame H H1) (b : TSame H1 H2) : TSame H H2 := fun c o h => b c o (a c o h)
theorem Same.ts {H H' : Hp} (s : Same H H') : TSame H H' := fun b xs h => h.elim (fun h => .inl (s _ _ h)) fun ⟨o, h⟩ => .inr ⟨o, s _ _ h⟩
theorem Keep.ts {M : List Addr} {H H' : Hp} (k : Keep M H H') (h : ∀ b ∈ M, ∃ xs, H b = some (.lst xs)) : TSame H H' := by
  intro b xs hb
  by_cases hm : b ∈ M
  · obtain ⟨ys, e⟩ := h b hm
    rcases hb with hb | ⟨o, hb⟩ <;> rw [e] at hb <;> cases hb
  · exact hb.elim (fun h => .inl (k _ _ hm h)) fun ⟨o, h⟩ => .inr ⟨o, k _ _ hm h⟩
theorem ts_lst {H H1 : Hp} {p : Addr} {xs : List V} (g : TSame H H1) (h : H1 p = some (.lst xs)) (o : HO) : TSame H (upd H1 p o) := fun b zs hb => by
  have h1 := g b zs hb
  have : b ≠ p := fun z => by subst z; rcases h1 with h1 | ⟨o, h1⟩ <;> rw [h] at h1 <;> cases h1
  rcases h1 with h1 | ⟨o', h1⟩
  · exact .inl (by rw [upd_ne this]; exact h1)
  · exact .inr ⟨o', by rw [upd_ne this]; exact h1⟩
theorem ts_new {H H1 : Hp} {p : Addr} (g : TSame H H1) (h : H1 p = none) (o : HO) : TSame H (upd H1 p o) := g.trans (Same.ts (same_new h o))
theorem SqT.ts {K : PySem.W.Frag} {H H' : Hp} {a : Addr} {xs : List V} (e : TSame H H') (h : SqT K H a xs) : SqT K H' a xs := h.elim (fun h => .inl (e _ _ h)) .inr
theorem SqT.same {K : PySem.W.Frag} {H H' : Hp} {a : Addr} {xs : List V} (e : Same H H') (h : SqT K H a xs) : SqT K H' a xs := SqT.ts (Same.ts e) h

/-! ### data -/
mutual
/-- no list in it -/
def noL : PyData → Bool
  | .list _ => false
  | .tuple xs => noLs xs
  | .dict _ => false
  | _ => true
def noLs : List PyData → Bool
  | [] => true
  | d :: ds => noL d && noLs ds
end
section
variable {K : PySem.W.Frag} {H H' : Hp}
mutual
theorem Dp.same (e : Same H H') : ∀ {v : V} {d : PyData}, Dp K H v d → Dp K H' v d
  | _, _, .non => .non
  | _, _, .bl b => .bl b
  | _, _, .int i => .int i
  | _, _, .str x => .str x
  | _, _, .lst h hs => .lst (e.seq h) (DpAll.same e hs)
  | _, _, .tup h hs => .tup (SqT.same e h) (DpAll.same e hs)
theorem DpAll.same (e : Same H H') : ∀ {vs : List V} {ds : List PyData}, DpAll K H vs ds → DpAll K H' vs ds
  | _, _, .nil => .nil
  | _, _, .cons h hs => .cons (Dp.same e h) (DpAll.same e hs)
end
mutual
theorem Dp.ts (e : TSame H H') : ∀ {d : PyData} {v : V}, noL d = true → Dp K H v d → Dp K H' v d
  | _, _, _, .non => .non
  | _, _, _, .bl b => .bl b
  | _, _, _, .int i => .int i
  | _, _, _, .str x => .str x
  | .list _, _, n, .lst h hs => by simp [noL] at n
  | .tuple ds, _, n, .tup h hs => .tup (SqT.ts e h) (DpAll.ts e (by simpa [noL] using n) hs)
theorem DpAll.ts (e : TSame H H') : ∀ {ds : List PyData} {vs : List V}, noLs ds = true → DpAll K H vs ds → DpAll K H' vs ds
  | [], _, _, .nil => .nil
  | d :: ds, _, n, .cons h hs => by
    have n' : noL d = true ∧ noLs ds = true := by simpa [noLs] using n
    exact .cons (Dp.ts e n'.1 h) (DpAll.ts e n'.2 hs)
end
theorem Dp.tupI {v : V} {ds : List PyData} (h : Dp K H v (.tuple ds)) : ∃ a xs, v = .ref a ∧ SqT K H a xs ∧ DpAll K H xs ds := by
  cases h with
  | tup hs ha => exact ⟨_, _, rfl, hs, ha⟩
theorem Dp.lstI {v : V} {ds : List PyData} (h : Dp K H v (.list ds)) : ∃ a xs, v = .ref a ∧ SqL K H a xs ∧ DpAll K H xs ds := by
  cases h with
  | lst hs ha => exact ⟨_, _, rfl, hs, ha⟩
theorem Dp.strI {v : V} {x : Str} (h : Dp K H v (.str x)) : v = .str x := by cases h; rfl
theorem Dp.intI {v : V} {i : Int} (h : Dp K H v (.int i)) : v = .int i := by cases h; rfl
theorem Dp.nonI {v : V} (h : Dp K H v .none) : v = .non := by cases h; rfl
theorem DpAll.nilI {vs : List V} (h : DpAll K H vs []) : vs = [] := by cases h; rfl
theorem DpAll.consI {vs : List V} {d : PyData} {ds : List PyData} (h : DpAll K H vs (d :: ds)) : ∃ v r, vs = v :: r ∧ Dp K H v d ∧ DpAll K H r ds := by
  cases h with
  | cons h1 h2 => exact ⟨_, _, rfl, h1, h2⟩
theorem DpAll.len : ∀ {vs : List V} {ds : List PyData}, DpAll K H vs ds → vs.length = ds.length
  | _, _, .nil => rfl
  | _, _, .cons _ hs => by simp [DpAll.len hs]
theorem DpAll.get : ∀ {vs : List V} {ds : List PyData} {i : Nat} {v : V}, DpAll K H vs ds → vs[i]? = some v → ∃ d, ds[i]? = some d ∧ Dp K H v d
  | _, _, _, _, .nil, e => by simp at e
  | _, _, 0, _, .cons h _, e => by simp at e; subst e; exact ⟨_, rfl, h⟩
  | _, _, i + 1, v, .cons _ hs, e => by
    obtain ⟨d, h1, h2⟩ := DpAll.get (i := i) (v := v) hs (by simpa using e)
    exact ⟨d, by simpa using h1, h2⟩
theorem DpAll.getD : ∀ {vs : List V} {ds : List PyData} {i : Nat} {d : PyData}, DpAll K H vs ds → ds[i]? = some d → ∃ v, vs[i]? = some v ∧ Dp K H v d
  | _, _, _, _, .nil, e => by simp at e
  | _, _, 0, _, .cons h _, e => by simp at e; subst e; exact ⟨_, rfl, h⟩
  | _, _, i + 1, d, .cons _ hs, e => by
    obtain ⟨v, h1, h2⟩ := DpAll.getD (i := i) (d := d) hs (by simpa using e)
    exact ⟨v, by simpa using h1, h2⟩
theorem DpAll.append : ∀ {vs ws : List V} {ds es : List PyData}, DpAll K H vs ds → DpAll K H ws es → DpAll K H (vs ++ ws) (ds ++ es)
  | _, _, _, _, .nil, s => s
  | _, _, _, _, .cons h hs, s => .cons h (DpAll.append hs s)
theorem DpAll.appI : ∀ {ds es : List PyData} {vs : List V}, DpAll K H vs (ds ++ es) → ∃ us ws, vs = us ++ ws ∧ DpAll K H us ds ∧ DpAll K H ws es
  | [], _, vs, h => ⟨[], vs, rfl, .nil, h⟩
  | d :: ds, es, _, .cons h hs => by
    obtain ⟨us, ws, rfl, h1, h2⟩ := DpAll.appI (ds := ds) (es := es) hs
    exact ⟨_ :: us, ws, rfl, .cons h h1, h2⟩
theorem DpAll.snoc {vs : List V} {ds : List PyData} {v : V} {d : PyData} (h : DpAll K H vs ds) (hv : Dp K H v d) : DpAll K H (vs ++ [v]) (ds ++ [d]) := h.append (.cons hv .nil)
theorem DpAll.set : ∀ {vs : List V} {ds : List PyData} {v : V} {d : PyData} (i : Nat), DpAll K H vs ds → Dp K H v d → DpAll K H (vs.set i v) (ds.set i d)
  | _, _, _, _, _, .nil, _ => .nil
  | _, _, _, _, 0, .cons _ hs, hv => .cons hv hs
  | _, _, _, _, i + 1, .cons h hs, hv => .cons h (DpAll.set i hs hv)
theorem DpAll.take : ∀ {vs : List V} {ds : List PyData} (n : Nat), DpAll K H vs ds → DpAll K H (vs.take n) (ds.take n)
  | _, _, 0, _ => .nil
  | _, _, _ + 1, .nil => .nil
  | _, _, n + 1, .cons h hs => .cons h (DpAll.take n hs)
theorem DpAll.drop : ∀ {vs : List V} {ds : List PyData} (n : Nat), DpAll K H vs ds → DpAll K H (vs.drop n) (ds.drop n)
  | _, _, 0, h => h
  | _, _, _ + 1, .nil => .nil
  | _, _, n + 1, .cons _ hs => DpAll.drop n hs
theorem Dp.ofT {a : Addr} {xs : List V} {ds : List PyData} (h : H a = some (.tup xs)) (hs : DpAll K H xs ds) : Dp K H (.ref a) (.tuple ds) := .tup (SqT.of h) hs
theorem Dp.ofL {a : Addr} {xs : List V} {ds : List PyData} (h : H a = some (.lst xs)) (hs : DpAll K H xs ds) : Dp K H (.ref a) (.list ds) := .lst (SqL.of h) hs
/-- a new tuple -/
theorem Dp.newT {p : Addr} {xs : List V} {ds : List PyData} (hp : H p = none) (hs : DpAll K H xs ds) : Dp K (upd H p (.tup xs)) (.ref p) (.tuple ds) := .ofT upd_same (DpAll.same (same_new hp _) hs)
theorem Dp.newL {p : Addr} {xs : List V} {ds : List PyData} (hp : H p = none) (hs : DpAll K H xs ds) : Dp K (upd H p (.lst xs)) (.ref p) (.list ds) := .ofL upd_same (DpAll.same (same_new hp _) hs)
theorem DpAll.str : ∀ {xs : List Str}, DpAll K H (xs.map V.str) (xs.map PyData.str)
  | [] => .nil
  | x :: xs => .cons (.str x) DpAll.str
theorem DpAll.int : ∀ {xs : List Int}, DpAll K H (xs.map V.int) (xs.map PyData.int)
  | [] => .nil
  | x :: xs => .cons (.int x) DpAll.int
end
/-! ### isinstance -/
theorem isi_at {K : PySem.W.Frag} {H : Hp} {x : V} {a c : String} {b : Bool} {Q : VK} (ht : TyX K H x (.type a)) (hk : kitB a c = some b) (q : Q (.bl b) H) : rIsi K [x, .ty c] H Q := ⟨x, .ty c, .type a, .type c, b, rfl, .ty c, ht, kit_ty hk, q⟩
theorem tyT {K : PySem.W.Frag} {H : Hp} {a : Addr} {xs : List V} (h : SqT K H a xs) : TyX K H (.ref a) (.type "tuple") := by
  rcases h with (h | ⟨o, h⟩) | ⟨o, _, _, h, hc, _⟩
  · exact .base (.tup h)
  · exact .fTuple h
  · exact .kTuple h hc
theorem tyL {K : PySem.W.Frag} {H : Hp} {a : Addr} {xs : List V} (h : SqL K H a xs) : TyX K H (.ref a) (.type "list") := by
  rcases h with (h | ⟨o, h⟩) | ⟨o, _, _, h, hc, _⟩
  · exact .base (.lst h)
  · exact .base (.frz h)
  · exact .kList h hc
theorem iteP {c A B : Prop} [Decidable c] (hc : c) (h : A) : if c then A else B := by rw [if_pos hc]; exact h
theorem iteN {c A B : Prop} [Decidable c] (hc : ¬ c) (h : B) : if c then A else B := by rw [if_neg hc]; exact h
theorem iteS {k z : Str} {A B : Prop} (h1 : k = z → A) (h2 : ¬ k = z → B) : if V.str k = V.str z then A else B := by
  by_cases h : k = z
  · rw [if_pos (by rw [h])]; exact h1 h
  · rw [if_neg (fun e => h (V.str.inj e))]; exact h2 h
theorem strne {k z : Str} (h : ¬ k = z) : ¬ V.str k = V.str z := fun e => h (V.str.inj e)
theorem inV_str {k : Str} : ∀ {zs : List Str}, (inV (.str k) (zs.map V.str) = true) ↔ k ∈ zs
  | [] => by simp [inV]
  | z :: zs => by
    have ih := inV_str (k := k) (zs := zs)
    unfold inV at ih ⊢
    simp only [List.map_cons, List.any_cons, Bool.or_eq_true, List.mem_cons, ih]
    have : (eqV (V.str z) (V.str k) = true) ↔ k = z := by
      show ((z == k) = true) ↔ _
      rw [beq_iff_eq]
      exact ⟨Eq.symm, Eq.symm⟩
    rw [this]
theorem szl {n : Nat} (h : n ≤ 1000000) : n ≤ sizeLine := Nat.le_trans h (by decide)
theorem szlt {n : Nat} (h : n < 1000000) : n < sizeLine := Nat.lt_of_lt_of_le h (by decide)
theorem at_last {v : V} {xs : List V} : atI (xs ++ [v]) (-1) = some v := by
  have e : ixN (xs ++ [v]).length (-1) = some xs.length := by
    simp [ixN]
    omega
  unfold atI
  rw [e]
  simp
theorem cut_last {v : V} {xs : List V} : cutV (xs ++ [v]) none (some (-1)) = xs := by
  have e1 : HT.sIx (xs ++ [v]).length 0 none = 0 := rfl
  have e2 : HT.sIx (xs ++ [v]).length (xs ++ [v]).length (some (-1)) = xs.length := by
    simp [HT.sIx]
    omega
  unfold cutV
  rw [e1, e2]
  simp
theorem cut_to {xs : List V} {i : Int} (h : 0 ≤ i) : cutV xs none (some i) = xs.take i.toNat := by
  have e1 : HT.sIx xs.length 0 none = 0 := rfl
  have e2 : HT.sIx xs.length xs.length (some i) = min i.toNat xs.length := by
    have : ¬ i < 0 := by omega
    simp [HT.sIx, this]
  unfold cutV
  rw [e1, e2, List.drop_zero, Nat.sub_zero]
  rcases Nat.le_total i.toNat xs.length with h1 | h1
  · rw [Nat.min_eq_left h1]
  · rw [Nat.min_eq_right h1, List.take_length, List.take_of_length_le h1]
theorem cut_from1 {xs : List V} : cutV xs (some 1) none = xs.drop 1 := by
  have e2 : HT.sIx xs.length xs.length none = xs.length := rfl
  unfold cutV
  rw [e2]
  cases xs with
  | nil => rfl
  | cons x xs =>
    have e1 : HT.sIx (x :: xs).length 0 (some 1) = 1 := by simp [HT.sIx]
    rw [e1]
    simp
theorem at0 {v : V} {xs : List V} : atI (v :: xs) 0 = some v := at_of (j := 0) rfl rfl
theorem at1 {v w : V} {xs : List V} : atI (v :: w :: xs) 1 = some w := at_of (j := 1) rfl rfl
theorem at2 {v w u : V} {xs : List V} : atI (v :: w :: u :: xs) 2 = some u := at_of (j := 2) rfl rfl
end L2

set_option Elab.async false
set_option linter.all false
set_option maxRecDepth 100000
set_option maxHeartbeats 4000000
namespace L2
open PySem PySem.Spec PyProof.Rows
theorem noLs_of {ds : List PyData} (h : ∀ d ∈ ds, noL d = true) : noLs ds = true := by
  induction ds with
  | nil => rfl
  | cons d ds ih =>
    simp only [noLs, Bool.and_eq_true]
    exact ⟨h d (by simp), ih fun e he => h e (by simp [he])⟩
theorem noLs_mem {ds : List PyData} (h : noLs ds = true) : ∀ d ∈ ds, noL d = true := by
  induction ds with
  | nil => simp
  | cons d ds ih =>
    simp only [noLs, Bool.and_eq_true] at h
    intro e he
    rcases List.mem_cons.mp he with rfl | he
    · exact h.1
    · exact ih h.2 e he
/-- a comprehension whose items are data without lists, whose turns leave all that stood -/
theorem lcB_data {K : PySem.W.Frag} {J : It} {n : Nat} {G : Hp → Prop} {Y : Nat → Hp → V → Hp → Prop} (w : Walk J n G Y) {g : TG} {tt : TT} {te : TE} {vs : List Nat} {σ : L2.St} {H1 : Hp} {Q : VK} (c : Nat → Bool) (f : Nat → PyData)
    (hn : ∀ i, i < n → noL (f i) = true) (hG : ∀ H', Same H1 H' → G H') (hz : n ≤ 1000000)
    (hs : ∀ (i : Nat) (x : V) (H H' : Hp) (R : VK) (R' : Hp → Prop), i < n → Same H1 H → Y i H x H' → (c i = true → ∀ y H4, Same H H4 → Dp K H4 y (f i) → R y H4) → (c i = false → ∀ H4, Same H H4 → R' H4) →
      g x (wipe σ vs) H' fun σ2 H2 => wipe σ2 vs = wipe σ vs ∧ tt σ2 H2 fun b H3 => if b = true then te σ2 H3 R else R' H3)
    (hd : ∀ D xs H', H1 D = none → Same H1 H' → H' D = some (.lst xs) → DpAll K H' xs (((List.range n).filter c).map f) → Q (.ref D) H') : LcB J g tt te vs σ Q H1 := by
  refine lcB w (fun D i H => Same H1 H ∧ ∃ xs, H D = some (.lst xs) ∧ DpAll K H xs (((List.range i).filter c).map f) ∧ xs.length ≤ i) (fun D hD => ⟨same_new hD _, [], upd_same, .nil, Nat.le_refl _⟩) (fun D i H _ p => hG H p.1) ?_ ?_
  · rintro D i x H H' hD hi ⟨g1, xs, hx, hA, hl⟩ y
    have hfl : noLs (((List.range i).filter c).map f) = true := noLs_of fun d hd' => by
      obtain ⟨j, hj, rfl⟩ := List.mem_map.mp hd'
      exact hn j (Nat.lt_trans (List.mem_range.mp (List.mem_filter.mp hj).1) hi)
    refine hs i x H H' _ _ hi g1 y (fun hc y H4 g4 hy => ?_) (fun hc H4 g4 => ?_)
    · have hx4 := g4 _ _ hx
      refine ⟨xs, hx4, szlt (by omega), same_mut (g1.trans g4) hD _, _, upd_same, ?_, by simp; omega⟩
      have ts : TSame H4 (upd H4 D (.lst (xs ++ [y]))) := ts_lst (TSame.refl _) hx4 _
      rw [List.range_succ, List.filter_append, List.map_append]
      have e1 : (List.filter c [i]) = [i] := by simp [hc]
      rw [e1]
      exact (DpAll.ts ts hfl (DpAll.same g4 hA)).append (.cons (Dp.ts ts (hn i hi) hy) .nil)
    · refine ⟨g1.trans g4, xs, g4 _ _ hx, ?_, by omega⟩
      rw [List.range_succ, List.filter_append, List.map_append]
      have e1 : (List.filter c [i]) = [] := by simp [hc]
      rw [e1, List.map_nil, List.append_nil]
      exact DpAll.same g4 hA
  · rintro D H hD ⟨g1, xs, hx, hA, _⟩
    exact hd D xs H hD g1 hx hA
theorem range_map_get {α : Type} (f : PyData → α) (ds : List PyData) : (List.range ds.length).map (fun i => f (ds.getD i .none)) = ds.map f := by
  apply List.ext_getElem
  · simp
  · intro i h1 h2
    have h3 : i < ds.length := by simpa using h1
    simp [h3]
theorem range_all {α : Type} (n : Nat) (f : Nat → α) : ((List.range n).filter (fun _ => true)).map f = (List.range n).map f := by rw [List.filter_eq_self.mpr (fun _ _ => rfl)]

/-! ### parts as data -/
def kd : PyData → Str
  | .tuple (.str k :: _) => k
  | _ => Str.empty
def fld (d : PyData) (i : Nat) : PyData := match d with | .tuple xs => xs.getD i .none | _ => .none
def its : PyData → List PyData
  | .tuple xs => xs
  | .list xs => xs
  | _ => []
def lastF (d : PyData) : PyData := match d with | .tuple xs => xs.getLastD .none | _ => .none
def kids (d : PyData) : List PyData :=
  if kd d = "row" then its (fld d 1) else if kd d = "choice" then (its (fld d 2)).map (fun o => fld o 1) else if kd d = "cell" ∨ kd d = "need" ∨ kd d = "pad" then [] else [lastF d]
def flatD : PyData → Bool
  | .none => true
  | .bool _ => true
  | .int _ => true
  | .str x => PyData.strOk x
  | _ => false
def leafKinds : List Str := ["cell", "need", "pad"]
def oneKinds : List Str := ["times", "counted", "within", "fill", "if left"]
/-- d is a part, at most n deep -/
inductive IsP : Nat → PyData → Prop
  | leaf {n : Nat} {k : Str} {fs : List PyData} (hk : k ∈ leafKinds) (hf : fs.all flatD = true ∧ fs.length ≤ 8) : IsP (n + 1) (.tuple (.str k :: fs))
  | row {n : Nat} {ps : List PyData} (hp : ∀ d ∈ ps, IsP n d) (hl : ps.length ≤ 12) : IsP (n + 1) (.tuple [.str "row", .tuple ps])
  | choice {n : Nat} {m : Str} {os : List (Int × PyData)} (hm : PyData.strOk m = true) (hp : ∀ o ∈ os, IsP n o.2) (h1 : 0 < os.length) (hl : os.length ≤ 12) : IsP (n + 1) (.tuple [.str "choice", .str m, .tuple (os.map fun o => .tuple [.int o.1, o.2])])
  | one {n : Nat} {k : Str} {fs : List PyData} {d : PyData} (hk : k ∈ oneKinds) (hf : fs.all flatD = true ∧ fs.length ≤ 8) (ht : k = "times" → ∃ m : Int, fs = [.int m] ∧ 0 ≤ m ∧ m ≤ 6) (hd : IsP n d) : IsP (n + 1) (.tuple (.str k :: (fs ++ [d])))
theorem leaf_ne {k : Str} (h : k ∈ leafKinds) : ¬ k = "row" ∧ ¬ k = "choice" ∧ (k = "cell" ∨ k = "need" ∨ k = "pad") := by
  simp only [leafKinds, List.mem_cons, List.not_mem_nil, or_false] at h
  rcases h with rfl | rfl | rfl <;> decide +kernel
theorem one_ne {k : Str} (h : k ∈ oneKinds) : ¬ k = "row" ∧ ¬ k = "choice" ∧ ¬ (k = "cell" ∨ k = "need" ∨ k = "pad") := by
  simp only [oneKinds, List.mem_cons, List.not_mem_nil, or_false] at h
  rcases h with rfl | rfl | rfl | rfl | rfl <;> decide +kernel
theorem row_ne_choice : ¬ ("choice" : Str) = "row" := by decide +kernel
theorem kids_leaf {k : Str} {fs : List PyData} (h : k ∈ leafKinds) : kids (.tuple (.str k :: fs)) = [] := by
  obtain ⟨h1, h2, h3⟩ := leaf_ne h
  simp [kids, kd, h1, h2, h3]
theorem kids_one {k : Str} {fs : List PyData} {d : PyData} (h : k ∈ oneKinds) : kids (.tuple (.str k :: (fs ++ [d]))) = [d] := by
  obtain ⟨h1, h2, h3⟩ := one_ne h
  rw [not_or, not_or] at h3
  have e : (PyData.str k :: (fs ++ [d])).getLast?.getD PyData.none = d := by
    rw [← List.cons_append, List.getLast?_concat]; rfl
  simp [kids, kd, h1, h2, h3, lastF, List.getLastD_eq_getLast?, e]
theorem kids_row {ps : List PyData} : kids (.tuple [.str "row", .tuple ps]) = ps := by
  simp [kids, kd, its, fld]
theorem kids_choice {m : PyData} {os : List (Int × PyData)} : kids (.tuple [.str "choice", m, .tuple (os.map fun o => .tuple [.int o.1, o.2])]) = os.map (·.2) := by
  simp [kids, kd, row_ne_choice, fld, its]
theorem IsP.kids {n : Nat} {d : PyData} (h : IsP (n + 1) d) : (∀ c ∈ kids d, IsP n c) ∧ (L2.kids d).length ≤ 12 := by
  cases h with
  | leaf hk hf => rw [kids_leaf hk]; simp
  | row hp hl => rw [kids_row]; exact ⟨hp, hl⟩
  | choice hm hp h1 hl => rw [kids_choice]; simp; exact ⟨fun c x hx => hp _ hx, hl⟩
  | one hk hf ht hd => rw [kids_one hk]; simp [hd]
theorem flat_noL {d : PyData} (h : flatD d = true) : noL d = true := by cases d <;> simp_all [flatD, noL]
theorem flat_noLs {ds : List PyData} (h : ds.all flatD = true) : noLs ds = true := noLs_of fun d hd => flat_noL (List.all_eq_true.mp h d hd)
theorem noLs_append {ds es : List PyData} (h : noLs ds = true) (h' : noLs es = true) : noLs (ds ++ es) = true := noLs_of fun d hd => (List.mem_append.mp hd).elim (noLs_mem h d) (noLs_mem h' d)
theorem IsP.noL : ∀ {n : Nat} {d : PyData}, IsP n d → noL d = true
  | _, _, .leaf hk hf => by simp only [L2.noL, noLs, Bool.true_and]; exact flat_noLs hf.1
  | _, _, .row hp hl => by
    simp only [L2.noL, noLs, Bool.true_and, Bool.and_true]
    exact noLs_of fun d hd => (hp d hd).noL
  | _, _, .choice hm hp h1 hl => by
    simp only [L2.noL, noLs, Bool.true_and, Bool.and_true]
    refine noLs_of fun d hd => ?_
    obtain ⟨o, ho, rfl⟩ := List.mem_map.mp hd
    simp only [L2.noL, noLs, Bool.true_and, Bool.and_true]
    exact (hp o ho).noL
  | _, _, .one hk hf ht hd => by
    simp only [L2.noL, noLs, Bool.true_and]
    exact noLs_append (flat_noLs hf.1) (by simp [noLs, hd.noL])
/-! ### laid data -/
theorem clAll_of {ds : List PyData} (h : ∀ d ∈ ds, PyData.canLay0 d = true) : PyData.canLayAll0 ds = true := by
  induction ds with
  | nil => rfl
  | cons d ds ih =>
    simp only [PyData.canLayAll0, Bool.and_eq_true]
    exact ⟨h d (by simp), ih fun e he => h e (by simp [he])⟩
theorem depthAll_of {ds : List PyData} {m : Nat} (h : ∀ d ∈ ds, PyData.depth d ≤ m) : PyData.depthAll ds ≤ m := by
  induction ds with
  | nil => exact Nat.zero_le _
  | cons d ds ih =>
    simp only [PyData.depthAll]
    exact Nat.max_le.mpr ⟨h d (by simp), ih fun e he => h e (by simp [he])⟩
theorem flat_cl {d : PyData} (h : flatD d = true) : PyData.canLay0 d = true ∧ PyData.depth d = 0 := by cases d <;> simp_all [flatD, PyData.canLay0, PyData.depth]
theorem kind_ok {k : Str} (h : k ∈ leafKinds ∨ k ∈ oneKinds) : PyData.strOk k = true := by
  simp only [leafKinds, oneKinds, List.mem_cons, List.not_mem_nil, or_false] at h
  rcases h with (rfl | rfl | rfl) | (rfl | rfl | rfl | rfl | rfl) <;> decide +kernel
/-- can be laid, at most m deep -/
def Laid (m : Nat) (d : PyData) : Prop := PyData.canLay0 d = true ∧ PyData.depth d ≤ m
theorem Laid.mono {m k : Nat} {d : PyData} (h : Laid m d) (hk : m ≤ k) : Laid k d := ⟨h.1, Nat.le_trans h.2 hk⟩
theorem Laid.tuple {m : Nat} {ds : List PyData} (h : ∀ d ∈ ds, Laid m d) : Laid (m + 1) (.tuple ds) := ⟨by simp only [PyData.canLay0]; exact clAll_of fun d hd => (h d hd).1, by simp only [PyData.depth]; exact Nat.succ_le_succ (depthAll_of fun d hd => (h d hd).2)⟩
theorem Laid.list {m : Nat} {ds : List PyData} (h : ∀ d ∈ ds, Laid m d) : Laid (m + 1) (.list ds) := ⟨by simp only [PyData.canLay0]; exact clAll_of fun d hd => (h d hd).1, by simp only [PyData.depth]; exact Nat.succ_le_succ (depthAll_of fun d hd => (h d hd).2)⟩
theorem Laid.flat {m : Nat} {d : PyData} (h : flatD d = true) : Laid m d := ⟨(flat_cl h).1, by rw [(flat_cl h).2]; exact Nat.zero_le _⟩
theorem Laid.str {m : Nat} {x : Str} (h : PyData.strOk x = true) : Laid m (.str x) := Laid.flat (by simpa [flatD] using h)
theorem Laid.int {m : Nat} {i : Int} : Laid m (.int i) := Laid.flat rfl
theorem Laid.non {m : Nat} : Laid m .none := Laid.flat rfl
theorem Laid.shaped {m : Nat} {d : PyData} (h : Laid m d) (hm : m ≤ 64) : SeqAt.shaped d = true := by
  simp only [SeqAt.shaped, Bool.and_eq_true, decide_eq_true_eq]
  exact ⟨h.1, Nat.le_trans h.2 hm⟩
theorem Laid.refl {m : Nat} {d : PyData} (h : Laid m d) : PyData.eqv d d = true := SeqAt.eqv_refl d h.1
theorem IsP.laid : ∀ {n : Nat} {d : PyData}, IsP n d → Laid (3 * n) d
  | _, _, .leaf (n := n) hk hf => by
    refine (Laid.tuple (m := 0) fun e he => ?_).mono (by omega)
    rcases List.mem_cons.mp he with rfl | he
    · exact Laid.str (kind_ok (.inl hk))
    · exact Laid.flat (List.all_eq_true.mp hf.1 e he)
  | _, _, .row (n := n) hp hl => by
    refine (Laid.tuple (m := 3 * n + 1) fun e he => ?_).mono (by omega)
    simp only [List.mem_cons, List.not_mem_nil, or_false] at he
    rcases he with rfl | rfl
    · exact Laid.str (by decide +kernel)
    · exact Laid.tuple fun d hd => (hp d hd).laid
  | _, _, .choice (n := n) hm hp h1 hl => by
    refine (Laid.tuple (m := 3 * n + 2) fun e he => ?_).mono (by omega)
    simp only [List.mem_cons, List.not_mem_nil, or_false] at he
    rcases he with rfl | rfl | rfl
    · exact Laid.str (by decide +kernel)
    · exact Laid.str hm
    · refine Laid.tuple fun d hd => ?_
      obtain ⟨o, ho, rfl⟩ := List.mem_map.mp hd
      refine Laid.tuple fun d hd => ?_
      simp only [List.mem_cons, List.not_mem_nil, or_false] at hd
      rcases hd with rfl | rfl
      · exact Laid.int
      · exact (hp o ho).laid
  | _, _, .one (n := n) hk hf ht hd => by
    refine (Laid.tuple (m := 3 * n) fun e he => ?_).mono (by omega)
    rcases List.mem_cons.mp he with rfl | he
    · exact Laid.str (kind_ok (.inr hk))
    · rcases List.mem_append.mp he with he | he
      · exact Laid.flat (List.all_eq_true.mp hf.1 e he)
      · simp only [List.mem_cons, List.not_mem_nil, or_false] at he
        subst he
        exact hd.laid
theorem IsP.mono : ∀ {n m : Nat} {d : PyData}, IsP n d → n ≤ m → IsP m d
  | _, 0, _, h, hle => by cases h <;> omega
  | _, m + 1, _, .leaf hk hf, _ => .leaf hk hf
  | _, m + 1, _, .row hp hl, h => .row (fun d hd => (hp d hd).mono (by omega)) hl
  | _, m + 1, _, .choice hm hp h1 hl, h => .choice hm (fun o ho => (hp o ho).mono (by omega)) h1 hl
  | _, m + 1, _, .one hk hf ht hd, h => .one hk hf ht (hd.mono (by omega))
theorem IsP.shape {n : Nat} {d : PyData} (h : IsP n d) : ∃ k fs, d = .tuple (.str k :: fs) ∧ kd d = k := by
  cases h <;> exact ⟨_, _, rfl, rfl⟩
end L2

set_option Elab.async false
set_option linter.all false
set_option maxRecDepth 100000
set_option maxHeartbeats 4000000
namespace W
open PySem L2
open C8 (Cal pe_c pss_cut tCut)
def topS (i : Nat) : Stmt := PySem.Challenge.pw_withinlimits_k03_sizes_and_places_of_par.main.body.getD i (.Pass ⟨0, 0, 0, 0⟩)
/-- the built-in names that the text does not bind -/
structure Bn (mg : Str → Option Value) : Prop where
  len : mg "len" = none
  abs : mg "abs" = none
  int : mg "int" = none
  range : mg "range" = none
  list : mg "list" = none
  tuple : mg "tuple" = none
  sum : mg "sum" = none
  isinstance : mg "isinstance" = none
  enumerate : mg "enumerate" = none
  zip : mg "zip" = none
  max : mg "max" = none
  min : mg "min" = none
  bool : mg "bool" = none
/-- a def of the text's top as it stands: its object, its name, its parameters -/
structure Dfn (K : PySem.W.Frag) (mg : Str → Option Value) (x : Str) (st : Stmt) (ps : List Str) (f : Addr) (fd : FuncData) : Prop where
  F : Fun K x x st f fd
  m : mg x = some (.ref f)
  b : Binds K fd ps []
theorem Dfn.cal {P : Program} {w : World} {K : PySem.W.Frag} {mg : Str → Option Value} {base : Heap} {x : Str} {st : Stmt} {ps : List Str} {f : Addr} {fd : FuncData} {k : Nat} {sp : Sp} (D : Dfn K mg x st ps f fd) (G : FnOk P w K mg base CX0 k f fd ps sp) : Cal P w K mg base k x sp [] :=
  ⟨f, fd, ps, [], G, D.m, D.F.kp, D.b, .nil⟩
theorem Dfn.never {P : Program} {w : World} {K : PySem.W.Frag} {mg : Str → Option Value} {base : Heap} {x : Str} {st : Stmt} {ps : List Str} {f : Addr} {fd : FuncData} {k : Nat} {sp : Sp} (D : Dfn K mg x st ps f fd) (no : ∀ vs H Q E, ¬ sp vs H Q E) : Cal P w K mg base k x sp [] :=
  D.cal ⟨fun vs H Q E h => absurd h (no vs H Q E), fun A outer s H args us vs Q E _ _ _ _ h => absurd h (no vs H Q E)⟩

/-! ### the drawing of numbers -/
def PoolOk (x y : Int) : Prop := 0 ≤ x ∧ 0 ≤ y ∧ y < 2147483647
def PoolAt (H : Hp) (a : Addr) : Prop := ∃ x y : Int, H a = some (.lst [.int x, .int y]) ∧ PoolOk x y
def spPool (K : PySem.W.Frag) : Sp := fun vs H Q _ => ∃ (a : Addr) (ns : List Int) (k : Int), vs = [.ref a, .int k] ∧ SqL K H a (ns.map V.int) ∧ 0 ≤ k ∧ k < 1000 ∧
  ∀ (p : Addr) (H2 : Hp) (x y : Int), H p = none → Same H H2 → H2 p = some (.lst [.int x, .int y]) → PoolOk x y → Q (.ref p) H2
def spDraw : Sp := fun vs H Q _ => ∃ (a : Addr) (c : Int), vs = [.ref a, .int c] ∧ PoolAt H a ∧ 0 < c ∧ c < 1000000 ∧
  ∀ (r : Int) (H' : Hp), 0 ≤ r → r < c → Keep [a] H H' → PoolAt H' a → Q (.int r) H'
theorem PoolAt.ts {H H' : Hp} {a : Addr} (h : PoolAt H a) (k : Keep [a] H H') : TSame H H' := k.ts fun b hb => by
  obtain ⟨x, y, e, _⟩ := h
  rw [List.mem_singleton.mp hb]
  exact ⟨_, e⟩
abbrev s_pool : Stmt := (topS 8)
theorem sc_pool : FnScope ["script", "k", "cell", "size", "seed"] ["script", "k"] (defScope s_pool) := ⟨rfl, rfl, rfl, by decide +kernel, rfl, by decide +kernel, by decide +kernel⟩
abbrev s_draw : Stmt := (topS 9)
theorem sc_draw : FnScope ["pool", "count", "found"] ["pool", "count"] (defScope s_draw) := ⟨rfl, rfl, rfl, by decide +kernel, rfl, by decide +kernel, by decide +kernel⟩
section
variable {P : Program} {w : World} {K : PySem.W.Frag} {mg : Str → Option Value} {base : Heap} {f : Addr} {fd : FuncData}
theorem ok_pool (D : Dfn K mg "_law_pool" s_pool ["script", "k"] f fd) (T : Bn mg) : Cal P w K mg base 1 "_law_pool" (spPool K) [] := by
  refine D.cal (D.F.ok sc_pool (fun vs H Q E h => ?_) (fun cdv A outer s H vs Q E hr h => ?_))
  · obtain ⟨a, ns, k, rfl, _⟩ := h
    rfl
  obtain ⟨a, ns, k, rfl, hS, h0, h1, q⟩ := h
  refine ⟨_, (pss_cons (ps_set (i := 2) sc_pool.nd rfl (Or.inl rfl) pe_int)
    (pss_cons (ps_if (pt_cmpR op_lt (pv 1) (pe_callB (kcall_len_seq K) (by rfl) T.len PySem.boot_len (pa_cons (pv 0) pa_nil)) (nomark _))
      (pss_one (ps_set (i := 2) sc_pool.nd rfl (Or.inl rfl) (pe_ix (kix_list K) (pv 0) (pv 1) (fun _ _ => rfl))))
      pss_nil)
    (pss_cons (ps_set (i := 3) sc_pool.nd rfl (Or.inl rfl) (pe_callB call_abs (by rfl) T.abs (by decide +kernel) (pa_cons (pv 2) pa_nil)))
    (pss_cons (ps_set (i := 4) sc_pool.nd rfl (Or.inl rfl) (pe_op op_mod (pe_op op_mul (pe_op op_add (pe_op op_add (pe_op op_mod (pv 3) pe_int) (pe_op op_mul pe_int (pv 1))) pe_int) pe_int) pe_int))
    (pss_one (ps_ret (pe_lstA (pa_cons (pe_op op_mul (pv 3) (pe_callTy call_intB (by rfl) T.int (by decide +kernel) (pa_cons (pe_cmpR op_ge (pv 3) (pe_op op_pow pe_int pe_int) (nomark _)) pa_nil))) (pa_cons (pv 4) pa_nil))))))))), ?_⟩
  have hl : (ns.map V.int).length = ns.length := List.length_map _
  simp only [and_assoc, tSeq, tAsg, tIfS, tTest, tOp, tVar, tC, rI0, rI, tCB, tCons, tNil, gName, tNext, tRet, tRetN, tLst, tTup, tDrop, tUn, rU, tB, tAnd, tOr, tNot, tAndV, tOrV, tNotV, tIf, tCall, tSl, tBM, tBM0, rAppend, rExtend, StX.tStar, gTup, wipe, tPart, tNoPart, L2.cxOf_K, L2.NewA, L2.iZipM, L2.tTupA, L2.tLstA, L2.rCatL, L2.rRepL, L2.rCatTA, L2.rSlLA, L2.rSlTA, L2.tFor_eq, L2.tLc_eq, iList, iTup, iRng1, iRng2, iRng3, iEnum, iZip, rSetL, tYes, rIn, L2.tMatch, L2.cIf, L2.cAny, L2.cNil, rIxL, rIxT, rEq, rNe, gSub, gNil, gCons, tPar, List.append_nil, L2.start, List.map_cons, List.map_nil, List.cons_append, List.nil_append, List.length_cons, List.length_nil, List.replicate, V.int.injEq, V.ref.injEq, V.bl.injEq, V.str.injEq, List.cons.injEq, Option.some.injEq, exists_eq_left, exists_eq_left', and_true, true_and, List.getElem?_cons_zero, List.getElem?_cons_succ, List.set_cons_zero, List.set_cons_succ, exists_and_left, exists_and_right, exists_eq', exists_eq, exists_eq_right, exists_eq_right', Nat.reduceAdd, Nat.reduceSub, decide_eq_true_eq, Bool.not_eq_true', decide_eq_false_iff_not, reduceCtorEq, false_and, and_false, or_false, false_or, exists_false, exists_const, Bool.false_eq_true, if_true, if_false]
  have fin : ∀ i : Int, (0 : Int) < 2147483629 ∧ CMul 7919 k ∧ CMul ((if i < 0 then -i else i) % 2147483629 + 7919 * k + 31) 48271 ∧ (0 : Int) < 2147483647 ∧ CPow 10 18 ∧
      CMul (if i < 0 then -i else i) (if 10 ^ Int.toNat 18 ≤ (if i < 0 then -i else i) then 1 else 0) ∧ 2 ≤ sizeLine ∧
      ∀ (p : Addr) (H2 : Hp), H p = none → Same H H2 → H2 p = some (HO.lst [V.int ((if i < 0 then -i else i) * (if 10 ^ Int.toNat 18 ≤ (if i < 0 then -i else i) then 1 else 0)), V.int (((if i < 0 then -i else i) % 2147483629 + 7919 * k + 31) * 48271 % 2147483647)]) → Q (V.ref p) H2 := by
    intro i
    have hm : 0 ≤ (if i < 0 then -i else i) := by split <;> omega
    generalize (if i < 0 then -i else i) = m at hm ⊢
    refine ⟨by decide, .inl ⟨by decide, by decide⟩, .inr ⟨by decide, by decide⟩, by decide, ⟨by decide, by decide, by decide⟩, .inr ?_, szl (by decide), fun p H2 hp g hx => q p H2 _ _ hp g hx ⟨?_, ?_, ?_⟩⟩
    · split <;> exact ⟨by decide, by decide⟩
    · split <;> omega
    · exact Int.emod_nonneg _ (by decide)
    · exact Int.emod_lt_of_pos _ (by decide)
  refine ⟨_, .inl hS, ?_⟩
  split
  · rename_i hk
    have hk' : k.toNat < ns.length := by rw [hl] at hk; omega
    exact ⟨_, hS, _, at_of (j := k.toNat) (by omega) (by rw [List.getElem?_map, List.getElem?_eq_getElem hk']; rfl), _, rfl, fin _⟩
  · exact fin 0
theorem ok_draw (D : Dfn K mg "_law_draw" s_draw ["pool", "count"] f fd) (T : Bn mg) : Cal P w K mg base 1 "_law_draw" spDraw [] := by
  refine D.cal (D.F.ok sc_draw (fun vs H Q E h => ?_) (fun cdv A outer s H vs Q E hr h => ?_))
  · obtain ⟨a, c, rfl, _⟩ := h
    rfl
  obtain ⟨a, c, rfl, ⟨x, y, hS, hx, hy, hy'⟩, h0, h1, q0⟩ := h
  have q : ∀ (r x' y' : Int), 0 ≤ r → r < c → PoolOk x' y' → Q (.int r) (upd H a (.lst [.int x', .int y'])) := fun r x' y' h1 h2 h3 =>
    q0 r _ h1 h2 (keep_upd (Keep.refl _ _) (List.mem_singleton.mpr rfl) _) ⟨x', y', upd_same, h3⟩
  refine ⟨_, (pss_cons (ps_if (pt_cmpR op_gt (pe_ix (kix_list K) (pv 0) pe_int (fun _ _ => rfl)) pe_int (nomark _))
      (pss_cons (ps_set (i := 2) sc_draw.nd rfl (Or.inl rfl) (pe_op op_mod (pe_callTy call_intI (by rfl) T.int (by decide +kernel) (pa_cons (pe_ix (kix_list K) (pv 0) pe_int (fun _ _ => rfl)) pa_nil)) (pv 1)))
      (pss_cons (ps_asg (pe_op op_fdiv (pe_callTy call_intI (by rfl) T.int (by decide +kernel) (pa_cons (pe_ix (kix_list K) (pv 0) pe_int (fun _ _ => rfl)) pa_nil)) (pv 1)) (pg_sub (pv 0) pe_int set_list))
      (pss_one (ps_ret (pv 2)))))
      pss_nil)
    (pss_cons (ps_asg (pe_op op_mod (pe_callTy call_intI (by rfl) T.int (by decide +kernel) (pa_cons (pe_op op_add (pe_op op_mul (pe_ix (kix_list K) (pv 0) pe_int (fun _ _ => rfl)) pe_int) pe_int) pa_nil)) pe_int) (pg_sub (pv 0) pe_int set_list))
    (pss_one (ps_ret (pe_op op_mod (pe_callTy call_intI (by rfl) T.int (by decide +kernel) (pa_cons (pe_op op_fdiv (pe_op op_mod (pe_callTy call_intI (by rfl) T.int (by decide +kernel) (pa_cons (pe_op op_mul (pe_ix (kix_list K) (pv 0) pe_int (fun _ _ => rfl)) (pe_ix (kix_list K) (pv 0) pe_int (fun _ _ => rfl))) pa_nil)) pe_int) pe_int) pa_nil)) (pv 1)))))), ?_⟩
  simp only [and_assoc, tSeq, tAsg, tIfS, tTest, tOp, tVar, tC, rI0, rI, tCB, tCons, tNil, gName, tNext, tRet, tRetN, tLst, tTup, tDrop, tUn, rU, tB, tAnd, tOr, tNot, tAndV, tOrV, tNotV, tIf, tCall, tSl, tBM, tBM0, rAppend, rExtend, StX.tStar, gTup, wipe, tPart, tNoPart, L2.cxOf_K, L2.NewA, L2.iZipM, L2.tTupA, L2.tLstA, L2.rCatL, L2.rRepL, L2.rCatTA, L2.rSlLA, L2.rSlTA, L2.tFor_eq, L2.tLc_eq, iList, iTup, iRng1, iRng2, iRng3, iEnum, iZip, rSetL, tYes, rIn, L2.tMatch, L2.cIf, L2.cAny, L2.cNil, rIxL, rIxT, rEq, rNe, gSub, gNil, gCons, tPar, List.append_nil, L2.start, List.map_cons, List.map_nil, List.cons_append, List.nil_append, List.length_cons, List.length_nil, List.replicate, V.int.injEq, V.ref.injEq, V.bl.injEq, V.str.injEq, List.cons.injEq, Option.some.injEq, exists_eq_left, exists_eq_left', and_true, true_and, List.getElem?_cons_zero, List.getElem?_cons_succ, List.set_cons_zero, List.set_cons_succ, exists_and_left, exists_and_right, exists_eq', exists_eq, exists_eq_right, exists_eq_right', Nat.reduceAdd, Nat.reduceSub, decide_eq_true_eq, Bool.not_eq_true', decide_eq_false_iff_not, reduceCtorEq, false_and, and_false, or_false, false_or, exists_false, exists_const, Bool.false_eq_true, if_true, if_false]
  refine ⟨_, SqL.of hS, _, at0, _, rfl, ?_⟩
  split
  · exact ⟨_, SqL.of hS, _, at0, _, rfl, h0, _, SqL.of hS, _, at0, _, rfl, ⟨h0, by omega⟩, _, hS, _, rfl, q _ _ _ (Int.emod_nonneg _ (by omega)) (Int.emod_lt_of_pos _ h0) ⟨Int.ediv_nonneg hx (by omega), hy, hy'⟩⟩
  · refine ⟨_, SqL.of hS, _, at1, _, rfl, .inl ⟨by omega, by omega⟩, by decide, _, hS, _, rfl, ?_⟩
    have b1 : 0 ≤ (y * 48271 + 11) % 2147483647 := Int.emod_nonneg _ (by decide)
    have b2 : (y * 48271 + 11) % 2147483647 < 2147483647 := Int.emod_lt_of_pos _ (by decide)
    exact ⟨_, SqL.of upd_same, _, at1, _, SqL.of upd_same, _, at1, _, rfl, _, rfl, .inl ⟨by omega, by omega⟩, by decide, ⟨by decide, by decide⟩, h0, q _ _ _ (Int.emod_nonneg _ (by omega)) (Int.emod_lt_of_pos _ h0) ⟨hx, b1, b2⟩⟩
end

end W

set_option Elab.async false
set_option linter.all false
set_option maxRecDepth 100000
set_option maxHeartbeats 4000000
namespace W
open PySem L2
open C8 (Cal pe_c pss_cut tCut)
/-! ### children -/
def spKids (K : PySem.W.Frag) : Sp := fun vs H Q _ => ∃ (v : V) (d : PyData) (n : Nat), vs = [v] ∧ IsP n d ∧ Dp K H v d ∧
  ∀ (p : Addr) (xs : List V) (H' : Hp), H p = none → Same H H' → H' p = some (.lst xs) → DpAll K H' xs (kids d) → Q (.ref p) H'
abbrev s_children : Stmt := (topS 1)
theorem sc_children : FnScope ["part", "number", "inner"] ["part"] (defScope s_children) := ⟨rfl, rfl, rfl, by decide +kernel, rfl, by decide +kernel, by decide +kernel⟩
abbrev s_lchildren : Stmt := (topS 10)
theorem sc_lchildren : FnScope ["part", "option"] ["part"] (defScope s_lchildren) := ⟨rfl, rfl, rfl, by decide +kernel, rfl, by decide +kernel, by decide +kernel⟩
section
variable {P : Program} {w : World} {K : PySem.W.Frag} {mg : Str → Option Value} {base : Heap} {f : Addr} {fd : FuncData}
theorem kids_kont {H : Hp} {Q : VK} {d : PyData} (q : ∀ (p : Addr) (xs : List V) (H' : Hp), H p = none → Same H H' → H' p = some (.lst xs) → DpAll K H' xs (kids d) → Q (.ref p) H') {xs : List V} (h : DpAll K H xs (kids d)) :
    ∀ l H2, H l = none → Same H H2 → H2 l = some (.lst xs) → Q (.ref l) H2 := fun l H2 hl g hx => q l xs H2 hl g hx (DpAll.same g h)
theorem leaf_test {k : Str} : (fOr (fun y => decide (y = Str.ofString "cell")) (fOr (fun y => decide (y = Str.ofString "need")) (fOr (fun y => decide (y = Str.ofString "pad")) fNil)) k = true) ↔ (k = "cell" ∨ k = "need" ∨ k = "pad") := by
  simp [fOr, fNil]
theorem ok_children (D : Dfn K mg "children" s_children ["part"] f fd) (T : Bn mg) : Cal P w K mg base 1 "children" (spKids K) [] := by
  refine D.cal (D.F.ok sc_children (fun vs H Q E h => ?_) (fun cdv A outer s H vs Q E hr h => ?_))
  · obtain ⟨v, d, n, rfl, _⟩ := h
    rfl
  obtain ⟨v, d, n, rfl, hP, hD, q⟩ := h
  refine ⟨_, (pss_one (ps_match (pe_ix (kix_tup K) (pv 0) pe_int (fun _ _ => rfl))
      (pcs_cons pp_val (pss_one (ps_ret (pe_callTy (kcall_list_of K) (by rfl) T.list (by decide +kernel) (pa_cons (pe_ix (kix_tup K) (pv 0) pe_int (fun _ _ => rfl)) pa_nil))))
      (pcs_cons pp_val (pss_one (ps_ret (pe_lc (own := [("number", 1), ("inner", 2)]) (g := gTup K 2 (gCons (gName 1) (gCons (gName 2) gNil))) (tt := tYes) (by rfl) sc_children.nd (kpi_tup K (pe_ix (kix_tup K) (pv 0) pe_int (fun _ _ => rfl))) (blkOk_by (own := [("number", 1), ("inner", 2)]) (N := ["part", "number", "inner"]) (sc := defScope s_children) (by decide +kernel)) (fun _ _ _ _ _ => (kpg_tup K (n := 2) rfl (pgs_cons (pg_name (i := 1) sc_children.nd rfl (Or.inl rfl)) (pgs_cons (pg_name (i := 2) sc_children.nd rfl (Or.inl rfl)) pgs_nil)))) (fun _ _ _ _ _ => pts_nil) (fun _ _ _ _ _ => (pv 2)))))
      (pcs_cons (pp_or (pf_cons pp_val (pf_cons pp_val (pf_cons pp_val pf_nil)))) (pss_one (ps_ret (pe_lstA pa_nil)))
      (pcs_any (pss_one (ps_ret (pe_lstA (pa_cons (pe_ix (kix_tup K) (pv 0) (pe_un un_neg pe_int) (fun _ _ => rfl)) pa_nil)))))))))), ?_⟩
  simp only [and_assoc, tSeq, tAsg, tIfS, tTest, tOp, tVar, tC, rI0, rI, tCB, tCons, tNil, gName, tNext, tRet, tRetN, tLst, tTup, tDrop, tUn, rU, tB, tAnd, tOr, tNot, tAndV, tOrV, tNotV, tIf, tCall, tSl, tBM, tBM0, rAppend, rExtend, StX.tStar, gTup, wipe, tPart, tNoPart, L2.cxOf_K, L2.NewA, L2.iZipM, L2.tTupA, L2.tLstA, L2.rCatL, L2.rRepL, L2.rCatTA, L2.rSlLA, L2.rSlTA, L2.tFor_eq, L2.tLc_eq, iList, iTup, iRng1, iRng2, iRng3, iEnum, iZip, rSetL, tYes, rIn, L2.tMatch, L2.cIf, L2.cAny, L2.cNil, rIxL, rIxT, rEq, rNe, gSub, gNil, gCons, tPar, List.append_nil, L2.start, List.map_cons, List.map_nil, List.cons_append, List.nil_append, List.length_cons, List.length_nil, List.replicate, V.int.injEq, V.ref.injEq, V.bl.injEq, V.str.injEq, List.cons.injEq, Option.some.injEq, exists_eq_left, exists_eq_left', and_true, true_and, List.getElem?_cons_zero, List.getElem?_cons_succ, List.set_cons_zero, List.set_cons_succ, exists_and_left, exists_and_right, exists_eq', exists_eq, exists_eq_right, exists_eq_right', Nat.reduceAdd, Nat.reduceSub, decide_eq_true_eq, Bool.not_eq_true', decide_eq_false_iff_not, reduceCtorEq, false_and, and_false, or_false, false_or, exists_false, exists_const, Bool.false_eq_true, if_true, if_false]
  cases hP with
  | leaf hk hf =>
    obtain ⟨a, xs, rfl, hS, hA⟩ := hD.tupI
    obtain ⟨v0, r, rfl, h0, hr⟩ := hA.consI
    cases h0.strI
    obtain ⟨h1, h2, h3⟩ := leaf_ne hk
    refine ⟨a, rfl, _, hS, _, at0, _, rfl, ?_⟩
    rw [if_neg h1]
    refine ⟨_, rfl, ?_⟩
    rw [if_neg h2]
    refine ⟨_, rfl, ?_⟩
    rw [if_pos (leaf_test.mpr h3)]
    exact ⟨szl (by decide), kids_kont q (by rw [kids_leaf hk]; exact .nil)⟩
  | row hp hl =>
    obtain ⟨a, xs, rfl, hS, hA⟩ := hD.tupI
    obtain ⟨v0, r, rfl, h0, hr⟩ := hA.consI
    cases h0.strI
    obtain ⟨v1, r, rfl, h1, hr⟩ := hr.consI
    cases hr.nilI
    obtain ⟨b, ys, rfl, hS1, hA1⟩ := h1.tupI
    refine ⟨a, rfl, _, hS, _, at0, _, rfl, ?_⟩
    rw [if_pos rfl]
    exact ⟨a, rfl, _, hS, _, at1, b, rfl, ys, .inr hS1, kids_kont q (by rw [kids_row]; exact hA1)⟩
  | choice hm hp h1 hl =>
    rename_i n m os
    obtain ⟨a, xs, rfl, hS, hA⟩ := hD.tupI
    obtain ⟨v0, r, rfl, h0, hr⟩ := hA.consI
    cases h0.strI
    obtain ⟨v1, r, rfl, _, hr⟩ := hr.consI
    obtain ⟨v2, r, rfl, h2, hr⟩ := hr.consI
    cases hr.nilI
    obtain ⟨b, ys, rfl, hS2, hA2⟩ := h2.tupI
    have hlen : ys.length = os.length := by rw [hA2.len, List.length_map]
    refine ⟨a, rfl, _, hS, _, at0, _, rfl, ?_⟩
    rw [if_neg row_ne_choice]
    refine ⟨_, rfl, ?_⟩
    rw [if_pos rfl]
    refine ⟨a, rfl, _, hS, _, at2, b, rfl, ⟨_, hS2⟩, ?_⟩
    refine lcB_data (K := K) (walk_tup (xs := ys)) (fun _ => true) (fun i => (os.map (·.2)).getD i .none) (fun i hi => ?_) (fun H' g => SqT.same g hS2) (by omega) (fun i x H1 H' R R' hi g1 y kR _ => ?_) (fun D xs H' hD g hx hA' => ?_)
    · rw [hlen] at hi
      simp only [List.getD_eq_getElem?_getD, List.getElem?_map, List.getElem?_eq_getElem hi, Option.map_some, Option.getD_some]
      exact (hp _ (List.getElem_mem hi)).noL
    · obtain ⟨rfl, hx⟩ := y
      obtain ⟨o, ho, hDo⟩ := hA2.get hx
      rw [hlen] at hi
      rw [List.getElem?_map, List.getElem?_eq_getElem hi] at ho
      cases ho
      obtain ⟨b', zs, rfl, hSo, hAo⟩ := hDo.tupI
      obtain ⟨w0, r, rfl, _, hr⟩ := hAo.consI
      obtain ⟨w1, r, rfl, hw1, hr⟩ := hr.consI
      cases hr.nilI
      simp only [and_assoc, tSeq, tAsg, tIfS, tTest, tOp, tVar, tC, rI0, rI, tCB, tCons, tNil, gName, tNext, tRet, tRetN, tLst, tTup, tDrop, tUn, rU, tB, tAnd, tOr, tNot, tAndV, tOrV, tNotV, tIf, tCall, tSl, tBM, tBM0, rAppend, rExtend, StX.tStar, gTup, wipe, tPart, tNoPart, L2.cxOf_K, L2.NewA, L2.iZipM, L2.tTupA, L2.tLstA, L2.rCatL, L2.rRepL, L2.rCatTA, L2.rSlLA, L2.rSlTA, L2.tFor_eq, L2.tLc_eq, iList, iTup, iRng1, iRng2, iRng3, iEnum, iZip, rSetL, tYes, rIn, L2.tMatch, L2.cIf, L2.cAny, L2.cNil, rIxL, rIxT, rEq, rNe, gSub, gNil, gCons, tPar, List.append_nil, L2.start, List.map_cons, List.map_nil, List.cons_append, List.nil_append, List.length_cons, List.length_nil, List.replicate, V.int.injEq, V.ref.injEq, V.bl.injEq, V.str.injEq, List.cons.injEq, Option.some.injEq, exists_eq_left, exists_eq_left', and_true, true_and, List.getElem?_cons_zero, List.getElem?_cons_succ, List.set_cons_zero, List.set_cons_succ, exists_and_left, exists_and_right, exists_eq', exists_eq, exists_eq_right, exists_eq_right', Nat.reduceAdd, Nat.reduceSub, decide_eq_true_eq, Bool.not_eq_true', decide_eq_false_iff_not, reduceCtorEq, false_and, and_false, or_false, false_or, exists_false, exists_const, Bool.false_eq_true, if_true, if_false]
      refine ⟨_, SqT.same g1 hSo, rfl, _, _, rfl, _, _, rfl, rfl, ?_⟩
      refine kR rfl _ _ (Same.refl _) ?_
      simp only [List.getD_eq_getElem?_getD, List.getElem?_map, List.getElem?_eq_getElem hi, Option.map_some, Option.getD_some]
      exact Dp.same g1 hw1
    · rw [range_all, hlen, show os.length = (os.map (·.2)).length by simp, range_map_get (fun d => d), List.map_id'] at hA'
      exact q D xs H' hD g hx (by rw [kids_choice]; exact hA')
  | one hk hf ht hd =>
    obtain ⟨a, xs, rfl, hS, hA⟩ := hD.tupI
    obtain ⟨v0, r, rfl, h0, hr⟩ := hA.consI
    cases h0.strI
    obtain ⟨h1, h2, h3⟩ := one_ne hk
    refine ⟨a, rfl, _, hS, _, at0, _, rfl, ?_⟩
    rw [if_neg h1]
    refine ⟨_, rfl, ?_⟩
    rw [if_neg h2]
    refine ⟨_, rfl, ?_⟩
    rw [if_neg fun z => h3 (leaf_test.mp z)]
    obtain ⟨us, ws, rfl, hu, hw⟩ := hr.appI
    obtain ⟨v1, r, rfl, h4, hr⟩ := hw.consI
    cases hr.nilI
    exact ⟨a, rfl, _, hS, _, at_last (xs := _ :: us), szl (by decide), kids_kont q (by rw [kids_one hk]; exact .cons h4 .nil)⟩
theorem ok_lchildren (D : Dfn K mg "_law_children" s_lchildren ["part"] f fd) (T : Bn mg) : Cal P w K mg base 1 "_law_children" (spKids K) [] := by
  refine D.cal (D.F.ok sc_lchildren (fun vs H Q E h => ?_) (fun cdv A outer s H vs Q E hr h => ?_))
  · obtain ⟨v, d, n, rfl, _⟩ := h
    rfl
  obtain ⟨v, d, n, rfl, hP, hD, q⟩ := h
  refine ⟨_, (pss_cons (ps_if (pt_cmpR op_eq (pe_ix (kix_tup K) (pv 0) pe_int (fun _ _ => rfl)) pe_str (nomark _))
      (pss_one (ps_ret (pe_callTy (kcall_list_of K) (by rfl) T.list (by decide +kernel) (pa_cons (pe_ix (kix_tup K) (pv 0) pe_int (fun _ _ => rfl)) pa_nil))))
      pss_nil)
    (pss_cons (ps_if (pt_cmpR op_eq (pe_ix (kix_tup K) (pv 0) pe_int (fun _ _ => rfl)) pe_str (nomark _))
      (pss_one (ps_ret (pe_lc (own := [("option", 1)]) (g := gName 1) (tt := tYes) (by rfl) sc_lchildren.nd (kpi_tup K (pe_ix (kix_tup K) (pv 0) pe_int (fun _ _ => rfl))) (blkOk_by (own := [("option", 1)]) (N := ["part", "option"]) (sc := defScope s_lchildren) (by decide +kernel)) (fun _ _ _ _ _ => (pg_name (i := 1) sc_lchildren.nd rfl (Or.inl rfl))) (fun _ _ _ _ _ => pts_nil) (fun _ _ _ _ _ => (pe_ix (kix_tup K) (pv 1) pe_int (fun _ _ => rfl))))))
      pss_nil)
    (pss_cons (ps_if (pt_cmpR (kop_in_seq K) (pe_ix (kix_tup K) (pv 0) pe_int (fun _ _ => rfl)) (pe_lstA (pa_cons pe_str (pa_cons pe_str (pa_cons pe_str pa_nil)))) rfl)
      (pss_one (ps_ret (pe_lstA pa_nil)))
      pss_nil)
    (pss_one (ps_ret (pe_lstA (pa_cons (pe_ix (kix_tup K) (pv 0) (pe_un un_neg pe_int) (fun _ _ => rfl)) pa_nil))))))), ?_⟩
  simp only [and_assoc, tSeq, tAsg, tIfS, tTest, tOp, tVar, tC, rI0, rI, tCB, tCons, tNil, gName, tNext, tRet, tRetN, tLst, tTup, tDrop, tUn, rU, tB, tAnd, tOr, tNot, tAndV, tOrV, tNotV, tIf, tCall, tSl, tBM, tBM0, rAppend, rExtend, StX.tStar, gTup, wipe, tPart, tNoPart, L2.cxOf_K, L2.NewA, L2.iZipM, L2.tTupA, L2.tLstA, L2.rCatL, L2.rRepL, L2.rCatTA, L2.rSlLA, L2.rSlTA, L2.tFor_eq, L2.tLc_eq, iList, iTup, iRng1, iRng2, iRng3, iEnum, iZip, rSetL, tYes, rIn, L2.tMatch, L2.cIf, L2.cAny, L2.cNil, rIxL, rIxT, rEq, rNe, gSub, gNil, gCons, tPar, List.append_nil, L2.start, List.map_cons, List.map_nil, List.cons_append, List.nil_append, List.length_cons, List.length_nil, List.replicate, V.int.injEq, V.ref.injEq, V.bl.injEq, V.str.injEq, List.cons.injEq, Option.some.injEq, exists_eq_left, exists_eq_left', and_true, true_and, List.getElem?_cons_zero, List.getElem?_cons_succ, List.set_cons_zero, List.set_cons_succ, exists_and_left, exists_and_right, exists_eq', exists_eq, exists_eq_right, exists_eq_right', Nat.reduceAdd, Nat.reduceSub, decide_eq_true_eq, Bool.not_eq_true', decide_eq_false_iff_not, reduceCtorEq, false_and, and_false, or_false, false_or, exists_false, exists_const, Bool.false_eq_true, if_true, if_false]
  cases hP with
  | leaf hk hf =>
    obtain ⟨a, xs, rfl, hS, hA⟩ := hD.tupI
    obtain ⟨v0, r, rfl, h0, hr⟩ := hA.consI
    cases h0.strI
    obtain ⟨h1, h2, h3⟩ := leaf_ne hk
    refine ⟨a, rfl, _, hS, _, at0, rfl, ?_⟩
    rw [if_neg (strne h1)]
    refine ⟨a, rfl, _, hS, _, at0, rfl, ?_⟩
    rw [if_neg (strne h2)]
    refine ⟨a, rfl, _, hS, _, at0, szl (by decide), fun p H2 hp g hx => ⟨_, .inl (SqL.of hx), rfl, rfl, ?_⟩⟩
    refine iteP (inV_str (zs := leafKinds) |>.mpr hk) ?_
    refine ⟨szl (by decide), fun l H3 hl g3 hx3 => q l _ _ (g.free hl) (g.trans g3) hx3 (by rw [kids_leaf hk]; exact .nil)⟩
  | row hp hl =>
    obtain ⟨a, xs, rfl, hS, hA⟩ := hD.tupI
    obtain ⟨v0, r, rfl, h0, hr⟩ := hA.consI
    cases h0.strI
    obtain ⟨v1, r, rfl, h1, hr⟩ := hr.consI
    cases hr.nilI
    obtain ⟨b, ys, rfl, hS1, hA1⟩ := h1.tupI
    refine ⟨a, rfl, _, hS, _, at0, rfl, ?_⟩
    rw [if_pos rfl]
    exact ⟨a, rfl, _, hS, _, at1, b, rfl, ys, .inr hS1, kids_kont q (by rw [kids_row]; exact hA1)⟩
  | choice hm hp h1 hl =>
    rename_i n m os
    obtain ⟨a, xs, rfl, hS, hA⟩ := hD.tupI
    obtain ⟨v0, r, rfl, h0, hr⟩ := hA.consI
    cases h0.strI
    obtain ⟨v1, r, rfl, _, hr⟩ := hr.consI
    obtain ⟨v2, r, rfl, h2, hr⟩ := hr.consI
    cases hr.nilI
    obtain ⟨b, ys, rfl, hS2, hA2⟩ := h2.tupI
    have hlen : ys.length = os.length := by rw [hA2.len, List.length_map]
    refine ⟨a, rfl, _, hS, _, at0, rfl, ?_⟩
    rw [if_neg (strne row_ne_choice)]
    refine ⟨a, rfl, _, hS, _, at0, rfl, ?_⟩
    rw [if_pos rfl]
    refine ⟨a, rfl, _, hS, _, at2, b, rfl, ⟨_, hS2⟩, ?_⟩
    refine lcB_data (K := K) (walk_tup (xs := ys)) (fun _ => true) (fun i => (os.map (·.2)).getD i .none) (fun i hi => ?_) (fun H' g => SqT.same g hS2) (by omega) (fun i x H1 H' R R' hi g1 y kR _ => ?_) (fun D xs H' hD g hx hA' => ?_)
    · rw [hlen] at hi
      simp only [List.getD_eq_getElem?_getD, List.getElem?_map, List.getElem?_eq_getElem hi, Option.map_some, Option.getD_some]
      exact (hp _ (List.getElem_mem hi)).noL
    · obtain ⟨rfl, hx⟩ := y
      obtain ⟨o, ho, hDo⟩ := hA2.get hx
      rw [hlen] at hi
      rw [List.getElem?_map, List.getElem?_eq_getElem hi] at ho
      cases ho
      obtain ⟨b', zs, rfl, hSo, hAo⟩ := hDo.tupI
      obtain ⟨w0, r, rfl, _, hr⟩ := hAo.consI
      obtain ⟨w1, r, rfl, hw1, hr⟩ := hr.consI
      cases hr.nilI
      simp only [and_assoc, tSeq, tAsg, tIfS, tTest, tOp, tVar, tC, rI0, rI, tCB, tCons, tNil, gName, tNext, tRet, tRetN, tLst, tTup, tDrop, tUn, rU, tB, tAnd, tOr, tNot, tAndV, tOrV, tNotV, tIf, tCall, tSl, tBM, tBM0, rAppend, rExtend, StX.tStar, gTup, wipe, tPart, tNoPart, L2.cxOf_K, L2.NewA, L2.iZipM, L2.tTupA, L2.tLstA, L2.rCatL, L2.rRepL, L2.rCatTA, L2.rSlLA, L2.rSlTA, L2.tFor_eq, L2.tLc_eq, iList, iTup, iRng1, iRng2, iRng3, iEnum, iZip, rSetL, tYes, rIn, L2.tMatch, L2.cIf, L2.cAny, L2.cNil, rIxL, rIxT, rEq, rNe, gSub, gNil, gCons, tPar, List.append_nil, L2.start, List.map_cons, List.map_nil, List.cons_append, List.nil_append, List.length_cons, List.length_nil, List.replicate, V.int.injEq, V.ref.injEq, V.bl.injEq, V.str.injEq, List.cons.injEq, Option.some.injEq, exists_eq_left, exists_eq_left', and_true, true_and, List.getElem?_cons_zero, List.getElem?_cons_succ, List.set_cons_zero, List.set_cons_succ, exists_and_left, exists_and_right, exists_eq', exists_eq, exists_eq_right, exists_eq_right', Nat.reduceAdd, Nat.reduceSub, decide_eq_true_eq, Bool.not_eq_true', decide_eq_false_iff_not, reduceCtorEq, false_and, and_false, or_false, false_or, exists_false, exists_const, Bool.false_eq_true, if_true, if_false]
      refine ⟨_, SqT.same g1 hSo, _, at1, ?_⟩
      refine kR rfl _ _ (Same.refl _) ?_
      simp only [List.getD_eq_getElem?_getD, List.getElem?_map, List.getElem?_eq_getElem hi, Option.map_some, Option.getD_some]
      exact Dp.same g1 hw1
    · rw [range_all, hlen, show os.length = (os.map (·.2)).length by simp, range_map_get (fun d => d), List.map_id'] at hA'
      exact q D xs H' hD g hx (by rw [kids_choice]; exact hA')
  | one hk hf ht hd =>
    obtain ⟨a, xs, rfl, hS, hA⟩ := hD.tupI
    obtain ⟨v0, r, rfl, h0, hr⟩ := hA.consI
    cases h0.strI
    obtain ⟨h1, h2, h3⟩ := one_ne hk
    refine ⟨a, rfl, _, hS, _, at0, rfl, ?_⟩
    rw [if_neg (strne h1)]
    refine ⟨a, rfl, _, hS, _, at0, rfl, ?_⟩
    rw [if_neg (strne h2)]
    refine ⟨a, rfl, _, hS, _, at0, szl (by decide), fun p H2 hp g hx => ⟨_, .inl (SqL.of hx), rfl, rfl, ?_⟩⟩
    refine iteN (fun z => h3 (by have := inV_str (zs := leafKinds) |>.mp z; simpa [leafKinds] using this)) ?_
    obtain ⟨us, ws, rfl, hu, hw⟩ := hr.appI
    obtain ⟨v1, r, rfl, h4, hr⟩ := hw.consI
    cases hr.nilI
    exact ⟨a, rfl, _, SqT.same g hS, _, at_last (xs := _ :: us), szl (by decide), fun l H3 hl g3 hx3 => q l _ _ (g.free hl) (g.trans g3) hx3 (by rw [kids_one hk]; exact .cons (Dp.same (g.trans g3) h4) .nil)⟩
end

end W

set_option Elab.async false
set_option linter.all false
set_option maxRecDepth 100000
set_option maxHeartbeats 4000000
namespace W
open PySem L2
open C8 (Cal pe_c pss_cut tCut)
/-! ### sizes -/
def oV : Option Int → V
  | none => .non
  | some i => .int i
def oD : Option Int → PyData
  | none => .none
  | some i => .int i
def noSize : List Str := ["counted", "within", "fill", "if left", "pad"]
def toI : PyData → Int
  | .int i => i
  | _ => 0
def szOf (d : PyData) (ss : List (Option Int)) : Option Int :=
  if kd d ∈ noSize ∨ none ∈ ss then none
  else if kd d = "cell" then some 1
  else if kd d = "choice" then (if ss.filter (fun s => s != ss.getD 0 none) = [] then some (1 + (ss.getD 0 none).getD 0) else none)
  else if kd d = "times" then some (toI (fld d 1) * (ss.getD 0 none).getD 0)
  else some (ss.map (·.getD 0)).sum
def sz : Nat → PyData → Option Int
  | 0, _ => none
  | n + 1, d => szOf d ((kids d).map (sz n))
def spSize (K : PySem.W.Frag) (n : Nat) : Sp := fun vs H Q _ => ∃ (v : V) (d : PyData), vs = [v] ∧ IsP n d ∧ Dp K H v d ∧ ∀ H', Same H H' → Q (oV (sz n d)) H'
theorem noL_oD (s : Option Int) : noL (oD s) = true := by cases s <;> rfl
theorem oV_of {K : PySem.W.Frag} {H : Hp} {v : V} {s : Option Int} (h : Dp K H v (oD s)) : v = oV s := by
  cases s with
  | none => exact h.nonI
  | some i => exact h.intI
theorem oD_of {K : PySem.W.Frag} {H : Hp} {s : Option Int} : Dp K H (oV s) (oD s) := by
  cases s with
  | none => exact .non
  | some i => exact .int i
theorem oVs_of {K : PySem.W.Frag} {H : Hp} : ∀ {vs : List V} {ss : List (Option Int)}, DpAll K H vs (ss.map oD) → vs = ss.map oV
  | _, [], h => h.nilI
  | _, s :: ss, h => by
    obtain ⟨v, r, rfl, h1, h2⟩ := h.consI
    rw [oV_of h1, oVs_of h2]; rfl
theorem oDs_of {K : PySem.W.Frag} {H : Hp} : ∀ {ss : List (Option Int)}, DpAll K H (ss.map oV) (ss.map oD)
  | [] => .nil
  | s :: ss => .cons oD_of oDs_of
theorem flat_oV : ∀ {ss : List (Option Int)}, (ss.map oV).all flatV = true
  | [] => rfl
  | none :: ss => by simp only [List.map_cons, List.all_cons, oV, flatV, Bool.true_and]; exact flat_oV
  | some i :: ss => by simp only [List.map_cons, List.all_cons, oV, flatV, Bool.true_and]; exact flat_oV
theorem inV_non : ∀ {ss : List (Option Int)}, (inV .non (ss.map oV) = true) ↔ none ∈ ss
  | [] => by simp [inV]
  | none :: ss => by
    refine ⟨fun _ => by simp, fun _ => ?_⟩
    unfold inV
    rw [List.map_cons, List.any_cons]
    rfl
  | some i :: ss => by
    have ih := inV_non (ss := ss)
    unfold inV at ih ⊢
    rw [List.map_cons, List.any_cons, show eqV (oV (some i)) .non = false from rfl, Bool.false_or, ih]
    simp
theorem all_some : ∀ {ss : List (Option Int)}, none ∉ ss → ∃ ns : List Int, ss = ns.map some
  | [], _ => ⟨[], rfl⟩
  | none :: ss, h => by simp at h
  | some i :: ss, h => by
    obtain ⟨ns, e⟩ := all_some (ss := ss) (by simpa using h)
    exact ⟨i :: ns, by simp [e]⟩
theorem map_oV_some {ns : List Int} : (ns.map some).map oV = ns.map V.int := by
  rw [List.map_map]
  rfl
theorem map_get_some {ns : List Int} : (ns.map some).map (·.getD 0) = ns := by
  rw [List.map_map]
  exact List.map_id' _
theorem kids_pos {n : Nat} {d : PyData} (h : IsP n d) (hk : kd d = "choice" ∨ kd d = "times") : 0 < (kids d).length := by
  cases h with
  | leaf hk' hf =>
    simp only [leafKinds, List.mem_cons, List.not_mem_nil, or_false] at hk'
    simp only [kd] at hk
    rcases hk' with rfl | rfl | rfl <;> rcases hk with z | z <;> exact absurd z (by decide +kernel)
  | row hp hl => simp only [kd] at hk; rcases hk with z | z <;> exact absurd z (by decide +kernel)
  | choice hm hp h1 hl => rw [kids_choice]; simpa using h1
  | one hk' hf ht hd => rw [kids_one hk']; simp
theorem times_shape {n : Nat} {d : PyData} (h : IsP n d) (hk : kd d = "times") : ∃ (m : Int) (c : PyData), d = .tuple [.str "times", .int m, c] ∧ 0 ≤ m ∧ m ≤ 6 := by
  cases h with
  | leaf hk' hf =>
    simp only [leafKinds, List.mem_cons, List.not_mem_nil, or_false] at hk'
    simp only [kd] at hk
    rcases hk' with rfl | rfl | rfl <;> exact absurd hk (by decide +kernel)
  | row hp hl => simp only [kd] at hk; exact absurd hk (by decide +kernel)
  | choice hm hp h1 hl => simp only [kd] at hk; exact absurd hk (by decide +kernel)
  | one hk' hf ht hd =>
    simp only [kd] at hk
    obtain ⟨m, rfl, h1, h2⟩ := ht hk
    exact ⟨m, _, by rw [hk]; rfl, h1, h2⟩
theorem getD_some {ns : List Int} (h : 0 < ns.length) : ((ns.map some).getD 0 none).getD 0 = ns.getD 0 0 := by
  cases ns with
  | nil => simp at h
  | cons m ns => rfl
theorem filt_some {ns : List Int} : ((ns.map some).filter fun s => s != (ns.map some).getD 0 none) = [] ↔ (ns.filter fun m => m != ns.getD 0 0) = [] := by
  cases ns with
  | nil => simp
  | cons m ns =>
    simp only [List.map_cons, List.getD_cons_zero, List.filter_eq_nil_iff, List.mem_cons, List.mem_map]
    constructor
    · intro h x hx
      have := h (some x) (by rcases hx with rfl | hx; exact .inl rfl; exact .inr ⟨x, hx, rfl⟩)
      simpa using this
    · rintro h x (rfl | ⟨y, hy, rfl⟩)
      · simp
      · have := h y (.inr hy)
        simpa using this
section
variable {K : PySem.W.Frag}
/-- one more than the sizes of a choice's parts, if all are alike -/
theorem sz_choice {H3 : Hp} {D' : Addr} {ns : List Int} {v : V} {Q : VK} (hD : SqL K H3 D' (ns.map V.int)) (hne : 0 < ns.length) (hz : ns.length ≤ 12)
    (q1 : (ns.filter fun m => m != ns.getD 0 0) = [] → ∀ H', Same H3 H' → Q (V.int (1 + ns.getD 0 0)) H') (q2 : (ns.filter fun m => m != ns.getD 0 0) ≠ [] → ∀ H', Same H3 H' → Q V.non H') :
    LcB (Itl K D') (gName 3) (tTest (tOp rNe (tVar 3) (tOp (rIxL K) (tVar 1) (tC (V.int 0))))) (tVar 3) [3] [some v, some (V.ref D'), none, none]
      (fun x H1 => 0 ≤ sizeLine ∧ ∀ (p : Addr) (H2 : Hp), H1 p = none → Same H1 H2 → H2 p = some (HO.lst []) → rEqD K x (V.ref p) H2 fun x H' => ∃ k, x = V.bl k ∧
        if k = true then ∃ p, V.ref D' = V.ref p ∧ ∃ x, SqL K H' p x ∧ ∃ x_1, atI x 0 = some x_1 ∧ ∃ x, x_1 = V.int x ∧ Q (V.int (1 + x)) H' else Q V.non H') H3 := by
  have h0 : atI (ns.map V.int) 0 = some (V.int (ns.getD 0 0)) := by
    cases ns with
    | nil => simp at hne
    | cons m ns => exact at0
  refine lcB_data (K := K) (walk_list (xs := ns.map V.int)) (fun i => ns.getD i 0 != ns.getD 0 0) (fun i => .int (ns.getD i 0)) (fun _ _ => rfl) (fun H' g => g.seq hD) (by simp; omega) (fun i x H2 H' R R' hi g2 y kR kR' => ?_) (fun D'' zs H2 hD' g2 hz' hA2 => ?_)
  · obtain ⟨rfl, hx⟩ := y
    have hi' : i < ns.length := by simpa using hi
    rw [List.getElem?_map, List.getElem?_eq_getElem hi'] at hx
    cases hx
    have ei : ns.getD i 0 = ns[i] := by simp [List.getD_eq_getElem?_getD, hi']
    simp only [and_assoc, tSeq, tAsg, tIfS, tTest, tOp, tVar, tC, rI0, rI, tCB, tCons, tNil, gName, tNext, tRet, tRetN, tLst, tTup, tDrop, tUn, rU, tB, tAnd, tOr, tNot, tAndV, tOrV, tNotV, tIf, tCall, tSl, tBM, tBM0, rAppend, rExtend, StX.tStar, gTup, wipe, tPart, tNoPart, L2.cxOf_K, L2.NewA, L2.iZipM, L2.tTupA, L2.tLstA, L2.rCatL, L2.rRepL, L2.rCatTA, L2.rSlLA, L2.rSlTA, L2.tFor_eq, L2.tLc_eq, iList, iTup, iRng1, iRng2, iRng3, iEnum, iZip, rSetL, tYes, rIn, L2.tMatch, L2.cIf, L2.cAny, L2.cNil, rIxL, rIxT, rEq, rNe, gSub, gNil, gCons, tPar, List.append_nil, L2.start, List.map_cons, List.map_nil, List.cons_append, List.nil_append, List.length_cons, List.length_nil, List.replicate, V.int.injEq, V.ref.injEq, V.bl.injEq, V.str.injEq, List.cons.injEq, Option.some.injEq, exists_eq_left, exists_eq_left', and_true, true_and, List.getElem?_cons_zero, List.getElem?_cons_succ, List.set_cons_zero, List.set_cons_succ, exists_and_left, exists_and_right, exists_eq', exists_eq, exists_eq_right, exists_eq_right', Nat.reduceAdd, Nat.reduceSub, decide_eq_true_eq, Bool.not_eq_true', decide_eq_false_iff_not, reduceCtorEq, false_and, and_false, or_false, false_or, exists_false, exists_const, Bool.false_eq_true, if_true, if_false]
    refine ⟨_, g2.seq hD, _, h0, rfl, ?_⟩
    by_cases hc : ns[i] = ns.getD 0 0
    · refine iteN (fun z => z (by rw [hc])) (kR' (by simp only [ei]; simpa using hc) _ (Same.refl _))
    · refine iteP (fun z => hc (V.int.inj z)) (kR (by simp only [ei]; simpa using hc) _ _ (Same.refl _) (by simp only [ei]; exact .int _))
  · refine ⟨Nat.zero_le _, fun p H4 hp g4 hx4 => ?_⟩
    have e1 : ((List.range (ns.map V.int).length).filter (fun i => ns.getD i 0 != ns.getD 0 0)).map (fun i => PyData.int (ns.getD i 0)) = (ns.filter fun m => m != ns.getD 0 0).map PyData.int := by
      have e2 : ns = (List.range ns.length).map (fun i => ns.getD i 0) := by
        apply List.ext_getElem
        · simp
        · intro i h1 h2
          simp [List.getD_eq_getElem?_getD, h1]
      conv => rhs; arg 2; rw [show ns.filter (fun m => m != ns.getD 0 0) = ((List.range ns.length).map (fun i => ns.getD i 0)).filter (fun m => m != ns.getD 0 0) by rw [← e2]]
      rw [List.filter_map, List.map_map, List.length_map]
      rfl
    rw [e1] at hA2
    refine ⟨_, .list [], Dp.same g4 (Dp.ofL hz' hA2), Dp.ofL hx4 .nil, ?_, rfl, ?_⟩
    · refine (Laid.list (m := 0) fun d hd => ?_).shaped (by decide)
      obtain ⟨m, _, rfl⟩ := List.mem_map.mp hd
      exact Laid.int
    · refine ⟨_, rfl, ?_⟩
      by_cases hf : (ns.filter fun m => m != ns.getD 0 0) = []
      · rw [hf]
        refine iteP rfl ⟨D', rfl, _, (g2.trans g4).seq hD, _, h0, _, rfl, q1 hf _ (g2.trans g4)⟩
      · refine iteN ?_ (q2 hf _ (g2.trans g4))
        cases hf' : (ns.filter fun m => m != ns.getD 0 0) with
        | nil => exact absurd hf' hf
        | cons m l => simp [PyData.eqv, PyData.eqvAll]
end

abbrev s_size : Stmt := (topS 2)
theorem sc_size : FnScope ["part", "sizes", "inner", "size"] ["part"] (defScope s_size) := ⟨rfl, rfl, rfl, by decide +kernel, rfl, by decide +kernel, by decide +kernel⟩
abbrev s_lsize : Stmt := (topS 11)
theorem sc_lsize : FnScope ["part", "sizes", "inner", "size"] ["part"] (defScope s_lsize) := ⟨rfl, rfl, rfl, by decide +kernel, rfl, by decide +kernel, by decide +kernel⟩
section
variable {P : Program} {w : World} {K : PySem.W.Frag} {mg : Str → Option Value} {base : Heap} {f : Addr} {fd : FuncData}
theorem ok_size {n : Nat} (D : Dfn K mg "size_of" s_size ["part"] f fd) (T : Bn mg) (cC : Cal P w K mg base 1 "children" (spKids K) []) (cS : Cal P w K mg base (n + 1) "size_of" (spSize K n) []) : Cal P w K mg base (n + 2) "size_of" (spSize K (n + 1)) [] := by
  refine D.cal (D.F.ok sc_size (fun vs H Q E h => ?_) (fun cdv A outer s H vs Q E hr h => ?_))
  · obtain ⟨v, d, rfl, _⟩ := h
    rfl
  obtain ⟨v, d, rfl, hP, hD, q⟩ := h
  have hu64 := hr.units
  refine ⟨_, (pss_cons (ps_set (i := 1) sc_size.nd rfl (Or.inr rfl) (pe_lc (own := [("inner", 2)]) (g := gName 2) (tt := tYes) (by rfl) sc_size.nd (kpi_list K (pe_c cC hr (by omega) rfl (pa_cons (pv 0) pa_nil))) (blkOk_by (own := [("inner", 2)]) (N := ["part", "sizes", "inner", "size"]) (sc := defScope s_size) (by decide +kernel)) (fun _ _ _ _ _ => (pg_name (i := 2) sc_size.nd rfl (Or.inl rfl))) (fun _ _ _ _ _ => pts_nil) (fun _ _ _ _ _ => (pe_c cS hr (by omega) rfl (pa_cons (pv 2) pa_nil)))))
    (pss_cons (ps_if (PW.pt (pw_or (pt_cmpR (kop_in_seq K) (pe_ix (kix_tup K) (pv 0) pe_int (fun _ _ => rfl)) (pe_tupA (pa_cons pe_str (pa_cons pe_str (pa_cons pe_str (pa_cons pe_str (pa_cons pe_str pa_nil)))))) rfl) (pw_or1 (pt_cmpR (kop_in_seq K) pe_non (pv 1) rfl))))
      (pss_one (ps_ret pe_non))
      pss_nil)
    (pss_one (ps_match (pe_ix (kix_tup K) (pv 0) pe_int (fun _ _ => rfl))
      (pcs_cons pp_val (pss_one (ps_ret pe_int))
      (pcs_cons pp_val (pss_one (ps_ret (pe_ifExp (pt_cmpR (kop_eqD K rfl hu64) (pe_lc (own := [("size", 3)]) (g := gName 3) (tt := _) (by rfl) sc_size.nd (kpi_list K (pv 1)) (blkOk_by (own := [("size", 3)]) (N := ["part", "sizes", "inner", "size"]) (sc := defScope s_size) (by decide +kernel)) (fun _ _ _ _ _ => (pg_name (i := 3) sc_size.nd rfl (Or.inl rfl))) (fun _ _ _ _ _ => (pts_one (pt_cmpR op_ne (pv 3) (pe_ix (kix_list K) (pv 1) pe_int (fun _ _ => rfl)) (nomark _)))) (fun _ _ _ _ _ => (pv 3))) (pe_lstA pa_nil) (nomark _)) (pe_op op_add pe_int (pe_ix (kix_list K) (pv 1) pe_int (fun _ _ => rfl))) pe_non)))
      (pcs_cons pp_val (pss_one (ps_ret (pe_op op_mul (pe_ix (kix_tup K) (pv 0) pe_int (fun _ _ => rfl)) (pe_ix (kix_list K) (pv 1) pe_int (fun _ _ => rfl)))))
      (pcs_any (pss_one (ps_ret (pe_callB (kcr_sum K rfl rfl) (by rfl) T.sum (by decide +kernel) (pa_cons (pv 1) pa_nil)))))))))))), ?_⟩
  simp only [and_assoc, tSeq, tAsg, tIfS, tTest, tOp, tVar, tC, rI0, rI, tCB, tCons, tNil, gName, tNext, tRet, tRetN, tLst, tTup, tDrop, tUn, rU, tB, tAnd, tOr, tNot, tAndV, tOrV, tNotV, tIf, tCall, tSl, tBM, tBM0, rAppend, rExtend, StX.tStar, gTup, wipe, tPart, tNoPart, L2.cxOf_K, L2.NewA, L2.iZipM, L2.tTupA, L2.tLstA, L2.rCatL, L2.rRepL, L2.rCatTA, L2.rSlLA, L2.rSlTA, L2.tFor_eq, L2.tLc_eq, iList, iTup, iRng1, iRng2, iRng3, iEnum, iZip, rSetL, tYes, rIn, L2.tMatch, L2.cIf, L2.cAny, L2.cNil, rIxL, rIxT, rEq, rNe, gSub, gNil, gCons, tPar, List.append_nil, L2.start, List.map_cons, List.map_nil, List.cons_append, List.nil_append, List.length_cons, List.length_nil, List.replicate, V.int.injEq, V.ref.injEq, V.bl.injEq, V.str.injEq, List.cons.injEq, Option.some.injEq, exists_eq_left, exists_eq_left', and_true, true_and, List.getElem?_cons_zero, List.getElem?_cons_succ, List.set_cons_zero, List.set_cons_succ, exists_and_left, exists_and_right, exists_eq', exists_eq, exists_eq_right, exists_eq_right', Nat.reduceAdd, Nat.reduceSub, decide_eq_true_eq, Bool.not_eq_true', decide_eq_false_iff_not, reduceCtorEq, false_and, and_false, or_false, false_or, exists_false, exists_const, Bool.false_eq_true, if_true, if_false]
  obtain ⟨k, fs, rfl, hkd⟩ := hP.shape
  obtain ⟨a, xs, rfl, hS, hA⟩ := hD.tupI
  obtain ⟨v0, r, rfl, h0, hr'⟩ := hA.consI
  cases h0.strI
  generalize hd : PyData.tuple (PyData.str k :: fs) = d at *
  have hP' := hP.kids
  refine ⟨_, d, _, rfl, hP, hD, fun l ys H1 hl g1 hx1 hA1 => ⟨l, rfl, ⟨_, SqL.of hx1⟩, ?_⟩⟩
  have hlen : ys.length = (kids d).length := hA1.len
  refine lcB_data (K := K) (walk_list (xs := ys)) (fun _ => true) (fun i => oD (sz n ((kids d).getD i .none))) (fun i _ => noL_oD _) (fun H' g => g.seq (SqL.of hx1)) (by omega) (fun i x H2 H' R R' hi g2 y kR _ => ?_) (fun D' zs H2 hD' g2 hz hA2 => ?_)
  · obtain ⟨rfl, hx⟩ := y
    obtain ⟨c, hc, hDc⟩ := hA1.get hx
    simp only [and_assoc, tSeq, tAsg, tIfS, tTest, tOp, tVar, tC, rI0, rI, tCB, tCons, tNil, gName, tNext, tRet, tRetN, tLst, tTup, tDrop, tUn, rU, tB, tAnd, tOr, tNot, tAndV, tOrV, tNotV, tIf, tCall, tSl, tBM, tBM0, rAppend, rExtend, StX.tStar, gTup, wipe, tPart, tNoPart, L2.cxOf_K, L2.NewA, L2.iZipM, L2.tTupA, L2.tLstA, L2.rCatL, L2.rRepL, L2.rCatTA, L2.rSlLA, L2.rSlTA, L2.tFor_eq, L2.tLc_eq, iList, iTup, iRng1, iRng2, iRng3, iEnum, iZip, rSetL, tYes, rIn, L2.tMatch, L2.cIf, L2.cAny, L2.cNil, rIxL, rIxT, rEq, rNe, gSub, gNil, gCons, tPar, List.append_nil, L2.start, List.map_cons, List.map_nil, List.cons_append, List.nil_append, List.length_cons, List.length_nil, List.replicate, V.int.injEq, V.ref.injEq, V.bl.injEq, V.str.injEq, List.cons.injEq, Option.some.injEq, exists_eq_left, exists_eq_left', and_true, true_and, List.getElem?_cons_zero, List.getElem?_cons_succ, List.set_cons_zero, List.set_cons_succ, exists_and_left, exists_and_right, exists_eq', exists_eq, exists_eq_right, exists_eq_right', Nat.reduceAdd, Nat.reduceSub, decide_eq_true_eq, Bool.not_eq_true', decide_eq_false_iff_not, reduceCtorEq, false_and, and_false, or_false, false_or, exists_false, exists_const, Bool.false_eq_true, if_true, if_false]
    refine ⟨_, c, rfl, hP'.1 c (List.mem_of_getElem? hc), Dp.same g2 hDc, fun H4 g4 => kR rfl _ _ g4 ?_⟩
    simp only [List.getD_eq_getElem?_getD, hc, Option.getD_some]
    exact oD_of
  · have e1 : (kids d).map (sz n) = (kids d).map (sz n) := rfl
    rw [range_all, hlen, range_map_get (fun c => oD (sz n c)), show (kids d).map (fun c => oD (sz n c)) = ((kids d).map (sz n)).map oD by simp] at hA2
    have hzs := oVs_of hA2
    subst hzs
    generalize hss : (kids d).map (sz n) = ss at *
    have hsz : sz (n + 1) d = szOf d ss := by rw [← hss]; rfl
    rw [hsz] at q
    have gg := g1.trans g2
    refine ⟨a, rfl, _, SqT.same gg hS, _, at0, szl (by decide), fun p H3 hp g3 hx3 => ⟨_, .inr (SqT.of hx3), rfl, rfl, ?_⟩⟩
    have ge := gg.trans g3
    refine ite2 (fun hc => ?_) (fun hc => ?_)
    · have hc' := inV_str (zs := noSize) |>.mp hc
      have e : szOf d ss = none := by
        unfold szOf
        rw [hkd, if_pos (.inl hc')]
      rw [e] at q
      exact q H3 ge
    have hc' : k ∉ noSize := fun z => hc (inV_str (zs := noSize) |>.mpr z)
    refine ⟨D', rfl, _, .inl (SqL.of (g3 _ _ hz)), rfl, flat_oV, ?_⟩
    refine ite2 (fun hn => ?_) (fun hn => ?_)
    · have e : szOf d ss = none := by
        unfold szOf
        rw [if_pos (.inr (inV_non.mp hn))]
      rw [e] at q
      exact q H3 ge
    have hn' : none ∉ ss := fun z => hn (inV_non.mpr z)
    have hnn : ¬ (kd d ∈ noSize ∨ none ∈ ss) := by rw [hkd]; exact fun z => z.elim hc' hn'
    unfold szOf at q
    rw [if_neg hnn, hkd] at q
    refine ⟨a, rfl, _, SqT.same ge hS, _, at0, k, rfl, ?_⟩
    obtain ⟨ns, hns⟩ := all_some hn'
    have hns' : ss.length = (kids d).length := by rw [← hss, List.length_map]
    have hnl : ns.length = (kids d).length := by rw [← hns', hns, List.length_map]
    have hDl : SqL K H3 D' (ns.map V.int) := by
      have := SqL.of (K := K) (g3 _ _ hz)
      rw [hns, map_oV_some] at this
      exact this
    refine ite2 (fun h1 => ?_) (fun h1 => ?_)
    · rw [if_pos h1] at q
      exact q H3 ge
    rw [if_neg h1] at q
    refine ⟨k, rfl, ite2 (fun h2 => ?_) (fun h2 => ⟨k, rfl, ite2 (fun h3 => ?_) (fun h3 => ?_)⟩)⟩
    · rw [if_pos h2] at q
      refine ⟨D', rfl, ⟨_, hDl⟩, sz_choice hDl ?_ (by omega) (fun hf H' g => ?_) (fun hf H' g => ?_)⟩
      · rw [hnl]
        exact kids_pos hP (by rw [hkd]; exact .inl h2)
      · have e : (ss.filter fun s => s != ss.getD 0 none) = [] := by rw [hns]; exact filt_some.mpr hf
        rw [if_pos e, hns] at q
        rw [getD_some (by rw [hnl]; exact kids_pos hP (by rw [hkd]; exact .inl h2))] at q
        exact q H' (ge.trans g)
      · have e : ¬ (ss.filter fun s => s != ss.getD 0 none) = [] := by rw [hns]; exact fun z => hf (filt_some.mp z)
        rw [if_neg e] at q
        exact q H' (ge.trans g)
    · rw [if_neg h2, if_pos h3] at q
      obtain ⟨m, c, hdm, hm0, hm6⟩ := times_shape hP (by rw [hkd]; exact h3)
      rw [hdm] at hd
      injection hd with hd1
      injection hd1 with _ hd2
      rw [hd2] at hr'
      obtain ⟨w1, r1, rfl, hw1, hr1⟩ := hr'.consI
      cases hw1.intI
      have hpos : 0 < ns.length := by rw [hnl]; exact kids_pos hP (by rw [hkd]; exact .inr h3)
      have h00 : atI (ns.map V.int) 0 = some (V.int (ns.getD 0 0)) := by
        cases ns with
        | nil => simp at hpos
        | cons m ns => exact at0
      rw [hns, getD_some hpos, hdm] at q
      exact ⟨a, rfl, _, SqT.same ge hS, _, at1, D', rfl, _, hDl, _, h00, _, rfl, _, rfl, .inl ⟨by omega, by omega⟩, q H3 ge⟩
    · rw [if_neg h2, if_neg h3, hns, map_get_some] at q
      exact ⟨D', ns, rfl, hDl, q H3 ge⟩
theorem ok_lsize {n : Nat} (D : Dfn K mg "_law_size" s_lsize ["part"] f fd) (T : Bn mg) (cC : Cal P w K mg base 1 "_law_children" (spKids K) []) (cS : Cal P w K mg base (n + 1) "_law_size" (spSize K n) []) : Cal P w K mg base (n + 2) "_law_size" (spSize K (n + 1)) [] := by
  refine D.cal (D.F.ok sc_lsize (fun vs H Q E h => ?_) (fun cdv A outer s H vs Q E hr h => ?_))
  · obtain ⟨v, d, rfl, _⟩ := h
    rfl
  obtain ⟨v, d, rfl, hP, hD, q⟩ := h
  have hu64 := hr.units
  refine ⟨_, (pss_cons (ps_set (i := 1) sc_lsize.nd rfl (Or.inr rfl) (pe_lc (own := [("inner", 2)]) (g := gName 2) (tt := tYes) (by rfl) sc_lsize.nd (kpi_list K (pe_c cC hr (by omega) rfl (pa_cons (pv 0) pa_nil))) (blkOk_by (own := [("inner", 2)]) (N := ["part", "sizes", "inner", "size"]) (sc := defScope s_lsize) (by decide +kernel)) (fun _ _ _ _ _ => (pg_name (i := 2) sc_lsize.nd rfl (Or.inl rfl))) (fun _ _ _ _ _ => pts_nil) (fun _ _ _ _ _ => (pe_c cS hr (by omega) rfl (pa_cons (pv 2) pa_nil)))))
    (pss_cons (ps_if (PW.pt (pw_or (pt_cmpR (kop_in_seq K) (pe_ix (kix_tup K) (pv 0) pe_int (fun _ _ => rfl)) (pe_lstA (pa_cons pe_str (pa_cons pe_str (pa_cons pe_str (pa_cons pe_str (pa_cons pe_str pa_nil)))))) rfl) (pw_or1 (pt_cmpR (kop_in_seq K) pe_non (pv 1) rfl))))
      (pss_one (ps_ret pe_non))
      pss_nil)
    (pss_cons (ps_if (pt_cmpR op_eq (pe_ix (kix_tup K) (pv 0) pe_int (fun _ _ => rfl)) pe_str (nomark _))
      (pss_one (ps_ret pe_int))
      pss_nil)
    (pss_cons (ps_if (pt_cmpR op_eq (pe_ix (kix_tup K) (pv 0) pe_int (fun _ _ => rfl)) pe_str (nomark _))
      (pss_one (ps_ret (pe_ifExp (pt_cmpR (kop_eqD K rfl hu64) (pe_lc (own := [("size", 3)]) (g := gName 3) (tt := _) (by rfl) sc_lsize.nd (kpi_list K (pv 1)) (blkOk_by (own := [("size", 3)]) (N := ["part", "sizes", "inner", "size"]) (sc := defScope s_lsize) (by decide +kernel)) (fun _ _ _ _ _ => (pg_name (i := 3) sc_lsize.nd rfl (Or.inl rfl))) (fun _ _ _ _ _ => (pts_one (pt_cmpR op_ne (pv 3) (pe_ix (kix_list K) (pv 1) pe_int (fun _ _ => rfl)) (nomark _)))) (fun _ _ _ _ _ => (pv 3))) (pe_lstA pa_nil) (nomark _)) (pe_op op_add pe_int (pe_ix (kix_list K) (pv 1) pe_int (fun _ _ => rfl))) pe_non)))
      pss_nil)
    (pss_cons (ps_if (pt_cmpR op_eq (pe_ix (kix_tup K) (pv 0) pe_int (fun _ _ => rfl)) pe_str (nomark _))
      (pss_one (ps_ret (pe_op op_mul (pe_ix (kix_tup K) (pv 0) pe_int (fun _ _ => rfl)) (pe_ix (kix_list K) (pv 1) pe_int (fun _ _ => rfl)))))
      pss_nil)
    (pss_one (ps_ret (pe_callB (kcr_sum K rfl rfl) (by rfl) T.sum (by decide +kernel) (pa_cons (pv 1) pa_nil))))))))), ?_⟩
  simp only [and_assoc, tSeq, tAsg, tIfS, tTest, tOp, tVar, tC, rI0, rI, tCB, tCons, tNil, gName, tNext, tRet, tRetN, tLst, tTup, tDrop, tUn, rU, tB, tAnd, tOr, tNot, tAndV, tOrV, tNotV, tIf, tCall, tSl, tBM, tBM0, rAppend, rExtend, StX.tStar, gTup, wipe, tPart, tNoPart, L2.cxOf_K, L2.NewA, L2.iZipM, L2.tTupA, L2.tLstA, L2.rCatL, L2.rRepL, L2.rCatTA, L2.rSlLA, L2.rSlTA, L2.tFor_eq, L2.tLc_eq, iList, iTup, iRng1, iRng2, iRng3, iEnum, iZip, rSetL, tYes, rIn, L2.tMatch, L2.cIf, L2.cAny, L2.cNil, rIxL, rIxT, rEq, rNe, gSub, gNil, gCons, tPar, List.append_nil, L2.start, List.map_cons, List.map_nil, List.cons_append, List.nil_append, List.length_cons, List.length_nil, List.replicate, V.int.injEq, V.ref.injEq, V.bl.injEq, V.str.injEq, List.cons.injEq, Option.some.injEq, exists_eq_left, exists_eq_left', and_true, true_and, List.getElem?_cons_zero, List.getElem?_cons_succ, List.set_cons_zero, List.set_cons_succ, exists_and_left, exists_and_right, exists_eq', exists_eq, exists_eq_right, exists_eq_right', Nat.reduceAdd, Nat.reduceSub, decide_eq_true_eq, Bool.not_eq_true', decide_eq_false_iff_not, reduceCtorEq, false_and, and_false, or_false, false_or, exists_false, exists_const, Bool.false_eq_true, if_true, if_false]
  obtain ⟨k, fs, rfl, hkd⟩ := hP.shape
  obtain ⟨a, xs, rfl, hS, hA⟩ := hD.tupI
  obtain ⟨v0, r, rfl, h0, hr'⟩ := hA.consI
  cases h0.strI
  generalize hd : PyData.tuple (PyData.str k :: fs) = d at *
  have hP' := hP.kids
  refine ⟨_, d, _, rfl, hP, hD, fun l ys H1 hl g1 hx1 hA1 => ⟨l, rfl, ⟨_, SqL.of hx1⟩, ?_⟩⟩
  have hlen : ys.length = (kids d).length := hA1.len
  refine lcB_data (K := K) (walk_list (xs := ys)) (fun _ => true) (fun i => oD (sz n ((kids d).getD i .none))) (fun i _ => noL_oD _) (fun H' g => g.seq (SqL.of hx1)) (by omega) (fun i x H2 H' R R' hi g2 y kR _ => ?_) (fun D' zs H2 hD' g2 hz hA2 => ?_)
  · obtain ⟨rfl, hx⟩ := y
    obtain ⟨c, hc, hDc⟩ := hA1.get hx
    simp only [and_assoc, tSeq, tAsg, tIfS, tTest, tOp, tVar, tC, rI0, rI, tCB, tCons, tNil, gName, tNext, tRet, tRetN, tLst, tTup, tDrop, tUn, rU, tB, tAnd, tOr, tNot, tAndV, tOrV, tNotV, tIf, tCall, tSl, tBM, tBM0, rAppend, rExtend, StX.tStar, gTup, wipe, tPart, tNoPart, L2.cxOf_K, L2.NewA, L2.iZipM, L2.tTupA, L2.tLstA, L2.rCatL, L2.rRepL, L2.rCatTA, L2.rSlLA, L2.rSlTA, L2.tFor_eq, L2.tLc_eq, iList, iTup, iRng1, iRng2, iRng3, iEnum, iZip, rSetL, tYes, rIn, L2.tMatch, L2.cIf, L2.cAny, L2.cNil, rIxL, rIxT, rEq, rNe, gSub, gNil, gCons, tPar, List.append_nil, L2.start, List.map_cons, List.map_nil, List.cons_append, List.nil_append, List.length_cons, List.length_nil, List.replicate, V.int.injEq, V.ref.injEq, V.bl.injEq, V.str.injEq, List.cons.injEq, Option.some.injEq, exists_eq_left, exists_eq_left', and_true, true_and, List.getElem?_cons_zero, List.getElem?_cons_succ, List.set_cons_zero, List.set_cons_succ, exists_and_left, exists_and_right, exists_eq', exists_eq, exists_eq_right, exists_eq_right', Nat.reduceAdd, Nat.reduceSub, decide_eq_true_eq, Bool.not_eq_true', decide_eq_false_iff_not, reduceCtorEq, false_and, and_false, or_false, false_or, exists_false, exists_const, Bool.false_eq_true, if_true, if_false]
    refine ⟨_, c, rfl, hP'.1 c (List.mem_of_getElem? hc), Dp.same g2 hDc, fun H4 g4 => kR rfl _ _ g4 ?_⟩
    simp only [List.getD_eq_getElem?_getD, hc, Option.getD_some]
    exact oD_of
  · have e1 : (kids d).map (sz n) = (kids d).map (sz n) := rfl
    rw [range_all, hlen, range_map_get (fun c => oD (sz n c)), show (kids d).map (fun c => oD (sz n c)) = ((kids d).map (sz n)).map oD by simp] at hA2
    have hzs := oVs_of hA2
    subst hzs
    generalize hss : (kids d).map (sz n) = ss at *
    have hsz : sz (n + 1) d = szOf d ss := by rw [← hss]; rfl
    rw [hsz] at q
    have gg := g1.trans g2
    refine ⟨a, rfl, _, SqT.same gg hS, _, at0, szl (by decide), fun p H3 hp g3 hx3 => ⟨_, .inl (SqL.of hx3), rfl, rfl, ?_⟩⟩
    have ge := gg.trans g3
    refine ite2 (fun hc => ?_) (fun hc => ?_)
    · have hc' := inV_str (zs := noSize) |>.mp hc
      have e : szOf d ss = none := by
        unfold szOf
        rw [hkd, if_pos (.inl hc')]
      rw [e] at q
      exact q H3 ge
    have hc' : k ∉ noSize := fun z => hc (inV_str (zs := noSize) |>.mpr z)
    refine ⟨D', rfl, _, .inl (SqL.of (g3 _ _ hz)), rfl, flat_oV, ?_⟩
    refine ite2 (fun hn => ?_) (fun hn => ?_)
    · have e : szOf d ss = none := by
        unfold szOf
        rw [if_pos (.inr (inV_non.mp hn))]
      rw [e] at q
      exact q H3 ge
    have hn' : none ∉ ss := fun z => hn (inV_non.mpr z)
    have hnn : ¬ (kd d ∈ noSize ∨ none ∈ ss) := by rw [hkd]; exact fun z => z.elim hc' hn'
    unfold szOf at q
    rw [if_neg hnn, hkd] at q
    refine ⟨a, rfl, _, SqT.same ge hS, _, at0, rfl, ?_⟩
    obtain ⟨ns, hns⟩ := all_some hn'
    have hns' : ss.length = (kids d).length := by rw [← hss, List.length_map]
    have hnl : ns.length = (kids d).length := by rw [← hns', hns, List.length_map]
    have hDl : SqL K H3 D' (ns.map V.int) := by
      have := SqL.of (K := K) (g3 _ _ hz)
      rw [hns, map_oV_some] at this
      exact this
    refine iteS (fun h1 => ?_) (fun h1 => ?_)
    · rw [if_pos h1] at q
      exact q H3 ge
    rw [if_neg h1] at q
    refine ⟨a, rfl, _, SqT.same ge hS, _, at0, rfl, iteS (fun h2 => ?_) (fun h2 => ⟨a, rfl, _, SqT.same ge hS, _, at0, rfl, iteS (fun h3 => ?_) (fun h3 => ?_)⟩)⟩
    · rw [if_pos h2] at q
      refine ⟨D', rfl, ⟨_, hDl⟩, sz_choice hDl ?_ (by omega) (fun hf H' g => ?_) (fun hf H' g => ?_)⟩
      · rw [hnl]
        exact kids_pos hP (by rw [hkd]; exact .inl h2)
      · have e : (ss.filter fun s => s != ss.getD 0 none) = [] := by rw [hns]; exact filt_some.mpr hf
        rw [if_pos e, hns] at q
        rw [getD_some (by rw [hnl]; exact kids_pos hP (by rw [hkd]; exact .inl h2))] at q
        exact q H' (ge.trans g)
      · have e : ¬ (ss.filter fun s => s != ss.getD 0 none) = [] := by rw [hns]; exact fun z => hf (filt_some.mp z)
        rw [if_neg e] at q
        exact q H' (ge.trans g)
    · rw [if_neg h2, if_pos h3] at q
      obtain ⟨m, c, hdm, hm0, hm6⟩ := times_shape hP (by rw [hkd]; exact h3)
      rw [hdm] at hd
      injection hd with hd1
      injection hd1 with _ hd2
      rw [hd2] at hr'
      obtain ⟨w1, r1, rfl, hw1, hr1⟩ := hr'.consI
      cases hw1.intI
      have hpos : 0 < ns.length := by rw [hnl]; exact kids_pos hP (by rw [hkd]; exact .inr h3)
      have h00 : atI (ns.map V.int) 0 = some (V.int (ns.getD 0 0)) := by
        cases ns with
        | nil => simp at hpos
        | cons m ns => exact at0
      rw [hns, getD_some hpos, hdm] at q
      exact ⟨a, rfl, _, SqT.same ge hS, _, at1, D', rfl, _, hDl, _, h00, _, rfl, _, rfl, .inl ⟨by omega, by omega⟩, q H3 ge⟩
    · rw [if_neg h2, if_neg h3, hns, map_get_some] at q
      exact ⟨D', ns, rfl, hDl, q H3 ge⟩
end

end W

set_option Elab.async false
set_option linter.all false
set_option maxRecDepth 100000
set_option maxHeartbeats 4000000
namespace W
open PySem L2
open C8 (Cal pe_c pss_cut tCut)
/-! ### all parts with their paths -/
def sub : Nat → PyData → List (List Int × PyData)
  | 0, _ => []
  | n + 1, d => ([], d) :: ((List.range (kids d).length).flatMap fun i => (sub n ((kids d).getD i .none)).map fun e => ((i : Int) :: e.1, e.2))
def pr (e : List Int × PyData) : PyData := .tuple [.tuple (e.1.map .int), e.2]
def cnt (n : Nat) (d : PyData) : Nat := (sub n d).length
/-- what a turn adds -/
def subAt (n : Nat) (d : PyData) (i : Nat) : List (List Int × PyData) := (sub n ((kids d).getD i .none)).map fun e => ((i : Int) :: e.1, e.2)
def subTo (n : Nat) (d : PyData) (j : Nat) : List (List Int × PyData) := ([], d) :: (List.range j).flatMap (subAt n d)
theorem subTo_all {n : Nat} {d : PyData} : subTo n d (kids d).length = sub (n + 1) d := rfl
theorem subTo_succ {n : Nat} {d : PyData} {j : Nat} : subTo n d (j + 1) = subTo n d j ++ subAt n d j := by
  simp [subTo, List.range_succ, List.flatMap_append]
theorem subTo_le {n : Nat} {d : PyData} {j : Nat} : ∀ {k : Nat}, j ≤ k → (subTo n d j).length ≤ (subTo n d k).length
  | 0, h => by have : j = 0 := by omega
               subst this; exact Nat.le_refl _
  | k + 1, h => by
    by_cases e : j = k + 1
    · rw [e]; exact Nat.le_refl _
    · have := subTo_le (n := n) (d := d) (j := j) (k := k) (by omega)
      rw [subTo_succ, List.length_append]
      omega
theorem cnt_kid {n : Nat} {d : PyData} {i : Nat} (hi : i < (kids d).length) : cnt n ((kids d).getD i .none) ≤ cnt (n + 1) d ∧ (subTo n d i).length + cnt n ((kids d).getD i .none) ≤ cnt (n + 1) d := by
  have h := subTo_le (n := n) (d := d) (j := i + 1) (k := (kids d).length) hi
  rw [subTo_all, subTo_succ, List.length_append] at h
  have e : (subAt n d i).length = cnt n ((kids d).getD i .none) := by simp [subAt, cnt]
  unfold cnt at *
  omega
theorem sub_isP : ∀ {n : Nat} {d : PyData}, IsP n d → ∀ e ∈ sub n d, IsP n e.2
  | 0, _, h, _, he => by cases he
  | n + 1, d, h, e, he => by
    have hk := h.kids
    simp only [sub, List.mem_cons, List.mem_flatMap, List.mem_range, List.mem_map] at he
    rcases he with rfl | ⟨i, hi, e', he', rfl⟩
    · exact h
    · have hc : (kids d).getD i .none ∈ kids d := by
        rw [List.getD_eq_getElem?_getD, List.getElem?_eq_getElem hi]
        exact List.getElem_mem hi
      exact (sub_isP (hk.1 _ hc) e' he').mono (by omega)
theorem noL_pr {e : List Int × PyData} (h : noL e.2 = true) : noL (pr e) = true := by
  have h1 : noLs (e.1.map PyData.int) = true := noLs_of fun d hd => by
    obtain ⟨i, _, rfl⟩ := List.mem_map.mp hd
    rfl
  simp [pr, noL, noLs, h, h1]
theorem sub_path : ∀ {n : Nat} {d : PyData}, ∀ e ∈ sub n d, e.1.length < n ∨ n = 0
  | 0, _, _, he => .inr rfl
  | n + 1, d, e, he => by
    simp only [sub, List.mem_cons, List.mem_flatMap, List.mem_range, List.mem_map] at he
    rcases he with rfl | ⟨i, hi, e', he', rfl⟩
    · exact .inl (Nat.succ_pos _)
    · rcases sub_path e' he' with h | h
      · exact .inl (by simp; omega)
      · subst h; cases he'
def spSub (K : PySem.W.Frag) (n : Nat) : Sp := fun vs H Q _ => ∃ (v : V) (d : PyData), vs = [v] ∧ IsP n d ∧ n ≤ 1000 ∧ cnt n d ≤ 100000 ∧ Dp K H v d ∧
  ∀ (p : Addr) (xs : List V) (H' : Hp), H p = none → Same H H' → H' p = some (.lst xs) → DpAll K H' xs ((sub n d).map pr) → Q (.ref p) H'

/-- the j-th pair that a turn adds -/
def subAtJ (n : Nat) (c : PyData) (i j : Nat) : PyData := pr ((i : Int) :: ((sub n c).getD j ([], .none)).1, ((sub n c).getD j ([], .none)).2)
theorem subAtJ_all {n : Nat} {d c : PyData} {i : Nat} (hc : (kids d).getD i .none = c) : (List.range (sub n c).length).map (subAtJ n c i) = (subAt n d i).map pr := by
  unfold subAt
  rw [hc, List.map_map]
  apply List.ext_getElem
  · simp
  · intro j h1 h2
    have h3 : j < (sub n c).length := by simpa using h1
    simp [subAtJ, List.getD_eq_getElem?_getD, h3]
theorem noL_subAtJ {n : Nat} {c : PyData} {i j : Nat} (h : IsP n c) (hj : j < (sub n c).length) : noL (subAtJ n c i j) = true := by
  unfold subAtJ
  rw [List.getD_eq_getElem?_getD, List.getElem?_eq_getElem hj]
  exact noL_pr (sub_isP h _ (List.getElem_mem hj)).noL
theorem pr_at {K : PySem.W.Frag} {H : Hp} {n j : Nat} {c : PyData} {zs : List V} {x : V} (h : DpAll K H zs ((sub n c).map pr)) (hx : zs[j]? = some x) :
    ∃ (T t : Addr) (ns : List Int) (b : V), x = .ref T ∧ SqT K H T [.ref t, b] ∧ SqT K H t (ns.map V.int) ∧ Dp K H b ((sub n c).getD j ([], .none)).2 ∧ ((sub n c).getD j ([], .none)).1 = ns ∧ j < (sub n c).length := by
  obtain ⟨e, he, hD⟩ := h.get hx
  have hj : j < (sub n c).length := by
    have := (List.getElem?_eq_some_iff.mp he).1
    simpa using this
  rw [List.getElem?_map, List.getElem?_eq_getElem hj] at he
  cases he
  obtain ⟨T, us, rfl, hS, hA⟩ := hD.tupI
  obtain ⟨u1, r, rfl, h1, hr⟩ := hA.consI
  obtain ⟨b, r, rfl, h2, hr⟩ := hr.consI
  cases hr.nilI
  obtain ⟨t, ps, rfl, hSt, hAt⟩ := h1.tupI
  have eps : ps = ((sub n c)[j].1).map V.int := by
    generalize (sub n c)[j].1 = ns at hAt
    clear hSt hS hA
    induction ns generalizing ps with
    | nil => exact hAt.nilI
    | cons m ns ih =>
      obtain ⟨w, r, rfl, hw, hr⟩ := hAt.consI
      cases hw.intI
      rw [ih r hr]
      rfl
  subst eps
  have eg : (sub n c).getD j ([], .none) = (sub n c)[j] := by rw [List.getD_eq_getElem?_getD, List.getElem?_eq_getElem hj]; rfl
  exact ⟨T, t, _, b, rfl, hS, hSt, by rw [eg]; exact h2, by rw [eg], hj⟩

abbrev s_sub : Stmt := (topS 3)
theorem sc_sub : FnScope ["part", "found", "index", "inner", "path", "below"] ["part"] (defScope s_sub) := ⟨rfl, rfl, rfl, by decide +kernel, rfl, by decide +kernel, by decide +kernel⟩
abbrev s_lsub : Stmt := (topS 18)
theorem sc_lsub : FnScope ["part", "found", "inner", "at", "path", "below"] ["part"] (defScope s_lsub) := ⟨rfl, rfl, rfl, by decide +kernel, rfl, by decide +kernel, by decide +kernel⟩
section
variable {P : Program} {w : World} {K : PySem.W.Frag} {mg : Str → Option Value} {base : Heap} {f : Addr} {fd : FuncData}
theorem ok_sub {n : Nat} (D : Dfn K mg "subparts" s_sub ["part"] f fd) (T : Bn mg) (cC : Cal P w K mg base 1 "children" (spKids K) []) (cS : Cal P w K mg base (n + 1) "subparts" (spSub K n) []) : Cal P w K mg base (n + 2) "subparts" (spSub K (n + 1)) [] := by
  refine D.cal (D.F.ok sc_sub (fun vs H Q E h => ?_) (fun cdv A outer s H vs Q E hr h => ?_))
  · obtain ⟨v, d, rfl, _⟩ := h
    rfl
  obtain ⟨v, d, rfl, hP, hn, hcn, hD, q⟩ := h
  refine ⟨_, (pss_cons (ps_set (i := 1) sc_sub.nd rfl (Or.inl rfl) (pe_lstA (pa_cons (pe_tupA (pa_cons (pe_tupA pa_nil) (pa_cons (pv 0) pa_nil))) pa_nil)))
    (pss_cons (ps_for PassesOwn.never rfl (pi_enum (by rfl) T.enumerate (pa_cons (pe_c cC hr (by omega) rfl (pa_cons (pv 0) pa_nil)) pa_nil)) (kpg_tup K (n := 2) rfl (pgs_cons (pg_name (i := 2) sc_sub.nd rfl (Or.inr rfl)) (pgs_cons (pg_name (i := 3) sc_sub.nd rfl (Or.inl rfl)) pgs_nil)))
      (pss_one (ps_expr (pe_bm PySem.F.plainAttrs_list PySem.F.slot_list_extend PySem.F.type_list_extend mt_extend (pv 1) (pa_cons (pe_lc (own := [("path", 4), ("below", 5)]) (g := gTup K 2 (gCons (gName 4) (gCons (gName 5) gNil))) (tt := tYes) (by rfl) sc_sub.nd (kpi_list K (pe_c cS hr (by omega) rfl (pa_cons (pv 3) pa_nil))) (blkOk_by (own := [("path", 4), ("below", 5)]) (N := ["part", "found", "index", "inner", "path", "below"]) (sc := defScope s_sub) (by decide +kernel)) (fun _ _ _ _ _ => (kpg_tup K (n := 2) rfl (pgs_cons (pg_name (i := 4) sc_sub.nd rfl (Or.inl rfl)) (pgs_cons (pg_name (i := 5) sc_sub.nd rfl (Or.inl rfl)) pgs_nil)))) (fun _ _ _ _ _ => pts_nil) (fun _ _ _ _ _ => (pe_tupA (pa_cons (pe_tupA (pa_cons (pv 2) (kpa_star K (pv 4) pa_nil))) (pa_cons (pv 5) pa_nil))))) pa_nil)))))
    (pss_one (ps_ret (pv 1))))), ?_⟩
  simp only [and_assoc, tSeq, tAsg, tIfS, tTest, tOp, tVar, tC, rI0, rI, tCB, tCons, tNil, gName, tNext, tRet, tRetN, tLst, tTup, tDrop, tUn, rU, tB, tAnd, tOr, tNot, tAndV, tOrV, tNotV, tIf, tCall, tSl, tBM, tBM0, rAppend, rExtend, StX.tStar, gTup, wipe, tPart, tNoPart, L2.cxOf_K, L2.NewA, L2.iZipM, L2.tTupA, L2.tLstA, L2.rCatL, L2.rRepL, L2.rCatTA, L2.rSlLA, L2.rSlTA, L2.tFor_eq, L2.tLc_eq, iList, iTup, iRng1, iRng2, iRng3, iEnum, iZip, rSetL, tYes, rIn, L2.tMatch, L2.cIf, L2.cAny, L2.cNil, rIxL, rIxT, rEq, rNe, gSub, gNil, gCons, tPar, List.append_nil, L2.start, List.map_cons, List.map_nil, List.cons_append, List.nil_append, List.length_cons, List.length_nil, List.replicate, V.int.injEq, V.ref.injEq, V.bl.injEq, V.str.injEq, List.cons.injEq, Option.some.injEq, exists_eq_left, exists_eq_left', and_true, true_and, List.getElem?_cons_zero, List.getElem?_cons_succ, List.set_cons_zero, List.set_cons_succ, exists_and_left, exists_and_right, exists_eq', exists_eq, exists_eq_right, exists_eq_right', Nat.reduceAdd, Nat.reduceSub, decide_eq_true_eq, Bool.not_eq_true', decide_eq_false_iff_not, reduceCtorEq, false_and, and_false, or_false, false_or, exists_false, exists_const, Bool.false_eq_true, if_true, if_false]
  refine ⟨szl (by decide), fun t H1 ht g1 hx1 => ⟨szl (by decide), fun t2 H2 ht2 g2 hx2 => ⟨szl (by decide), fun l H3 hl g3 hx3 => ?_⟩⟩⟩
  have g13 := (g1.trans g2).trans g3
  have hnl : H l = none := (g1.trans g2).free hl
  refine ⟨v, d, n + 1, rfl, hP, Dp.same g13 hD, fun c ys H4 hc g4 hx4 hA4 => ⟨c, rfl, ⟨_, SqL.of hx4⟩, ?_⟩⟩
  have hcl : c ≠ l := fun z => by subst z; rw [hx3] at hc; cases hc
  have hlen : ys.length = (kids d).length := hA4.len
  have hsl : ∀ i, i ≤ (kids d).length → noLs ((subTo n d i).map pr) = true := fun i hi => noLs_of fun e he => by
    obtain ⟨e', he', rfl⟩ := List.mem_map.mp he
    have : e' ∈ sub (n + 1) d := by
      rw [← subTo_all]
      rcases List.mem_cons.mp he' with rfl | he'
      · exact List.mem_cons_self ..
      · refine List.mem_cons_of_mem _ ?_
        obtain ⟨j, hj, hm⟩ := List.mem_flatMap.mp he'
        exact List.mem_flatMap.mpr ⟨j, List.mem_range.mpr (by have := List.mem_range.mp hj; omega), hm⟩
    exact noL_pr (sub_isP hP e' this).noL
  refine forB (walk_enum (K := K) (a := c) (xs := ys)) (fun i σ H' => ∃ (o1 o2 : Option V) (xs : List V), σ = [some v, some (.ref l), o1, o2, none, none] ∧ Same H H' ∧ Keep [l] H4 H' ∧ H' l = some (.lst xs) ∧ DpAll K H' xs ((subTo n d i).map pr) ∧ xs.length = (subTo n d i).length) ?_ ?_ ?_ ?_
  · refine ⟨none, none, _, rfl, g13.trans g4, Keep.refl _ _, g4 _ _ hx3, .cons ?_ .nil, rfl⟩
    refine .ofT (g4 _ _ (g3 _ _ hx2)) (.cons ?_ (.cons (Dp.same (g13.trans g4) hD) .nil))
    exact .ofT (g4 _ _ (g3 _ _ (g2 _ _ hx1))) .nil
  · rintro i σ H' _ ⟨o1, o2, xs, _, _, hk, _⟩
    exact SqL.of (hk _ _ (by simp [hcl]) hx4)
  · rintro i x σ H5 H6 hi ⟨o1, o2, xs, rfl, g5, hk5, hx5, hA5, hxl⟩ ⟨T', a1, b1, rfl, hT, rfl, e1, e2⟩
    cases e1
    have hi' : i < (kids d).length := by omega
    obtain ⟨cd, hcd, hDc⟩ := hA4.get e2
    have hPc : IsP n cd := hP.kids.1 cd (List.mem_of_getElem? hcd)
    have hcg : (kids d).getD i .none = cd := by rw [List.getD_eq_getElem?_getD, hcd]; rfl
    have ⟨hc1, hc2⟩ := cnt_kid (n := n) hi'
    rw [hcg] at hc1 hc2
    have gT := same_new hT (.tup [.int (i : Int), b1])
    have gK : Keep [l] H4 (upd H5 T' (.tup [.int (i : Int), b1])) := hk5.trans (Same.keep gT)
    have hD6 : Dp K (upd H5 T' (.tup [.int (i : Int), b1])) b1 cd := Dp.ts (Keep.ts gK (by simp; exact ⟨_, g4 _ _ hx3⟩)) hPc.noL hDc
    simp only [and_assoc, tSeq, tAsg, tIfS, tTest, tOp, tVar, tC, rI0, rI, tCB, tCons, tNil, gName, tNext, tRet, tRetN, tLst, tTup, tDrop, tUn, rU, tB, tAnd, tOr, tNot, tAndV, tOrV, tNotV, tIf, tCall, tSl, tBM, tBM0, rAppend, rExtend, StX.tStar, gTup, wipe, tPart, tNoPart, L2.cxOf_K, L2.NewA, L2.iZipM, L2.tTupA, L2.tLstA, L2.rCatL, L2.rRepL, L2.rCatTA, L2.rSlLA, L2.rSlTA, L2.tFor_eq, L2.tLc_eq, iList, iTup, iRng1, iRng2, iRng3, iEnum, iZip, rSetL, tYes, rIn, L2.tMatch, L2.cIf, L2.cAny, L2.cNil, rIxL, rIxT, rEq, rNe, gSub, gNil, gCons, tPar, List.append_nil, L2.start, List.map_cons, List.map_nil, List.cons_append, List.nil_append, List.length_cons, List.length_nil, List.replicate, V.int.injEq, V.ref.injEq, V.bl.injEq, V.str.injEq, List.cons.injEq, Option.some.injEq, exists_eq_left, exists_eq_left', and_true, true_and, List.getElem?_cons_zero, List.getElem?_cons_succ, List.set_cons_zero, List.set_cons_succ, exists_and_left, exists_and_right, exists_eq', exists_eq, exists_eq_right, exists_eq_right', Nat.reduceAdd, Nat.reduceSub, decide_eq_true_eq, Bool.not_eq_true', decide_eq_false_iff_not, reduceCtorEq, false_and, and_false, or_false, false_or, exists_false, exists_const, Bool.false_eq_true, if_true, if_false]
    refine ⟨_, SqT.of upd_same, rfl, _, _, rfl, _, _, rfl, rfl, ?_⟩
    refine ⟨.inl ⟨rfl, _, SqL.of (gT _ _ hx5)⟩, ?_⟩
    refine ⟨_, cd, rfl, hPc, by omega, by omega, hD6, fun r zs H7 hr g7 hx7 hA7 => ⟨r, rfl, ⟨_, SqL.of hx7⟩, ?_⟩⟩
    have hzl : zs.length = (sub n cd).length := by rw [hA7.len, List.length_map]
    have hzc : (sub n cd).length = cnt n cd := rfl
    refine lcB_data (K := K) (walk_list (xs := zs)) (fun _ => true) (fun j => subAtJ n cd i j) (fun j hj => noL_subAtJ hPc (by omega)) (fun H' g => g.seq (SqL.of hx7)) (by omega) (fun j x H8 H9 R R' hj g8 y kR _ => ?_) (fun D' us H8 hD' g8 hu hA8 => ?_)
    · obtain ⟨rfl, hx⟩ := y
      obtain ⟨T2, t2', ns, b, rfl, hS1, hS2, hDb, hns, hjl⟩ := pr_at hA7 hx
      have hpl : ns.length ≤ 1000 := by
        have := sub_path (n := n) (d := cd) _ (List.getElem_mem hjl)
        rw [← hns, List.getD_eq_getElem?_getD, List.getElem?_eq_getElem hjl]
        rcases this with h | h
        · simp only [Option.getD_some]; omega
        · rw [h] at hjl; exact absurd hjl (Nat.not_lt_zero _)
      simp only [and_assoc, tSeq, tAsg, tIfS, tTest, tOp, tVar, tC, rI0, rI, tCB, tCons, tNil, gName, tNext, tRet, tRetN, tLst, tTup, tDrop, tUn, rU, tB, tAnd, tOr, tNot, tAndV, tOrV, tNotV, tIf, tCall, tSl, tBM, tBM0, rAppend, rExtend, StX.tStar, gTup, wipe, tPart, tNoPart, L2.cxOf_K, L2.NewA, L2.iZipM, L2.tTupA, L2.tLstA, L2.rCatL, L2.rRepL, L2.rCatTA, L2.rSlLA, L2.rSlTA, L2.tFor_eq, L2.tLc_eq, iList, iTup, iRng1, iRng2, iRng3, iEnum, iZip, rSetL, tYes, rIn, L2.tMatch, L2.cIf, L2.cAny, L2.cNil, rIxL, rIxT, rEq, rNe, gSub, gNil, gCons, tPar, List.append_nil, L2.start, List.map_cons, List.map_nil, List.cons_append, List.nil_append, List.length_cons, List.length_nil, List.replicate, V.int.injEq, V.ref.injEq, V.bl.injEq, V.str.injEq, List.cons.injEq, Option.some.injEq, exists_eq_left, exists_eq_left', and_true, true_and, List.getElem?_cons_zero, List.getElem?_cons_succ, List.set_cons_zero, List.set_cons_succ, exists_and_left, exists_and_right, exists_eq', exists_eq, exists_eq_right, exists_eq_right', Nat.reduceAdd, Nat.reduceSub, decide_eq_true_eq, Bool.not_eq_true', decide_eq_false_iff_not, reduceCtorEq, false_and, and_false, or_false, false_or, exists_false, exists_const, Bool.false_eq_true, if_true, if_false]
      refine ⟨_, SqT.same g8 hS1, rfl, _, _, rfl, _, _, rfl, rfl, ?_⟩
      refine ⟨t2', rfl, _, .inl (SqT.same g8 hS2), szl (by simp; omega), fun p1 H10 hp1 g10 hx10 => ⟨szl (by decide), fun p2 H11 hp2 g11 hx11 => ?_⟩⟩
      refine kR rfl _ _ (g10.trans g11) ?_
      unfold subAtJ pr
      rw [hns]
      refine .ofT hx11 (.cons (.ofT (g11 _ _ hx10) (.cons (.int _) ?_)) (.cons (Dp.same ((g8.trans g10).trans g11) hDb) .nil))
      exact DpAll.int
    · rw [range_all, hzl, subAtJ_all hcg] at hA8
      have gx := (gT.trans g7).trans g8
      have hul : us.length = (subAt n d i).length := by rw [hA8.len, List.length_map]
      have hsl' : (subAt n d i).length = cnt n cd := by unfold subAt cnt; rw [hcg, List.length_map]
      have hDl : H l ≠ some (.lst xs) := by rw [hnl]; simp
      refine ⟨D', rfl, xs, gx _ _ hx5, us, hu, szl (by omega), same_mut (g5.trans gx) hnl _, keep_upd (hk5.trans (Same.keep gx)) (by simp) _, _, upd_same, ?_, by rw [subTo_succ, List.length_append, List.length_append]; omega⟩
      have ts : TSame H8 (upd H8 l (.lst (xs ++ us))) := ts_lst (TSame.refl _) (gx _ _ hx5) _
      have hall := hsl (i + 1) hi'
      rw [subTo_succ, List.map_append] at hall ⊢
      exact DpAll.ts ts hall ((DpAll.same gx hA5).append hA8)
  · rintro σ H' ⟨o1, o2, xs, rfl, g5, hk5, hx5, hA5, hxl⟩
    rw [hlen, subTo_all] at hA5
    simp only [and_assoc, tSeq, tAsg, tIfS, tTest, tOp, tVar, tC, rI0, rI, tCB, tCons, tNil, gName, tNext, tRet, tRetN, tLst, tTup, tDrop, tUn, rU, tB, tAnd, tOr, tNot, tAndV, tOrV, tNotV, tIf, tCall, tSl, tBM, tBM0, rAppend, rExtend, StX.tStar, gTup, wipe, tPart, tNoPart, L2.cxOf_K, L2.NewA, L2.iZipM, L2.tTupA, L2.tLstA, L2.rCatL, L2.rRepL, L2.rCatTA, L2.rSlLA, L2.rSlTA, L2.tFor_eq, L2.tLc_eq, iList, iTup, iRng1, iRng2, iRng3, iEnum, iZip, rSetL, tYes, rIn, L2.tMatch, L2.cIf, L2.cAny, L2.cNil, rIxL, rIxT, rEq, rNe, gSub, gNil, gCons, tPar, List.append_nil, L2.start, List.map_cons, List.map_nil, List.cons_append, List.nil_append, List.length_cons, List.length_nil, List.replicate, V.int.injEq, V.ref.injEq, V.bl.injEq, V.str.injEq, List.cons.injEq, Option.some.injEq, exists_eq_left, exists_eq_left', and_true, true_and, List.getElem?_cons_zero, List.getElem?_cons_succ, List.set_cons_zero, List.set_cons_succ, exists_and_left, exists_and_right, exists_eq', exists_eq, exists_eq_right, exists_eq_right', Nat.reduceAdd, Nat.reduceSub, decide_eq_true_eq, Bool.not_eq_true', decide_eq_false_iff_not, reduceCtorEq, false_and, and_false, or_false, false_or, exists_false, exists_const, Bool.false_eq_true, if_true, if_false]
    exact q l xs H' hnl g5 hx5 hA5
theorem ok_lsub {n : Nat} (D : Dfn K mg "_law_paths" s_lsub ["part"] f fd) (T : Bn mg) (cC : Cal P w K mg base 1 "_law_children" (spKids K) []) (cS : Cal P w K mg base (n + 1) "_law_paths" (spSub K n) []) : Cal P w K mg base (n + 2) "_law_paths" (spSub K (n + 1)) [] := by
  refine D.cal (D.F.ok sc_lsub (fun vs H Q E h => ?_) (fun cdv A outer s H vs Q E hr h => ?_))
  · obtain ⟨v, d, rfl, _⟩ := h
    rfl
  obtain ⟨v, d, rfl, hP, hn, hcn, hD, q⟩ := h
  refine ⟨_, (pss_cons (ps_set (i := 1) sc_lsub.nd rfl (Or.inl rfl) (pe_lstA (pa_cons (pe_tupA (pa_cons (pe_tupA pa_nil) (pa_cons (pv 0) pa_nil))) pa_nil)))
    (pss_cons (ps_set (i := 2) sc_lsub.nd rfl (Or.inl rfl) (pe_c cC hr (by omega) rfl (pa_cons (pv 0) pa_nil)))
    (pss_cons (ps_for PassesOwn.never rfl (pi_range1 rfl T.range (pa_cons (pe_callB (kcall_len_seq K) (by rfl) T.len PySem.boot_len (pa_cons (pv 2) pa_nil)) pa_nil)) (pg_name (i := 3) sc_lsub.nd rfl (Or.inr rfl))
      (pss_one (ps_set (i := 1) sc_lsub.nd rfl (Or.inl rfl) (pe_op (op_catL K) (pv 1) (pe_lc (own := [("path", 4), ("below", 5)]) (g := gTup K 2 (gCons (gName 4) (gCons (gName 5) gNil))) (tt := tYes) (by rfl) sc_lsub.nd (kpi_list K (pe_c cS hr (by omega) rfl (pa_cons (pe_ix (kix_list K) (pv 2) (pv 3) (fun _ _ => rfl)) pa_nil))) (blkOk_by (own := [("path", 4), ("below", 5)]) (N := ["part", "found", "inner", "at", "path", "below"]) (sc := defScope s_lsub) (by decide +kernel)) (fun _ _ _ _ _ => (kpg_tup K (n := 2) rfl (pgs_cons (pg_name (i := 4) sc_lsub.nd rfl (Or.inl rfl)) (pgs_cons (pg_name (i := 5) sc_lsub.nd rfl (Or.inl rfl)) pgs_nil)))) (fun _ _ _ _ _ => pts_nil) (fun _ _ _ _ _ => (pe_tupA (pa_cons (pe_op (kop_catA K) (pe_tupA (pa_cons (pv 3) pa_nil)) (pv 4)) (pa_cons (pv 5) pa_nil)))))))))
    (pss_one (ps_ret (pv 1)))))), ?_⟩
  simp only [and_assoc, tSeq, tAsg, tIfS, tTest, tOp, tVar, tC, rI0, rI, tCB, tCons, tNil, gName, tNext, tRet, tRetN, tLst, tTup, tDrop, tUn, rU, tB, tAnd, tOr, tNot, tAndV, tOrV, tNotV, tIf, tCall, tSl, tBM, tBM0, rAppend, rExtend, StX.tStar, gTup, wipe, tPart, tNoPart, L2.cxOf_K, L2.NewA, L2.iZipM, L2.tTupA, L2.tLstA, L2.rCatL, L2.rRepL, L2.rCatTA, L2.rSlLA, L2.rSlTA, L2.tFor_eq, L2.tLc_eq, iList, iTup, iRng1, iRng2, iRng3, iEnum, iZip, rSetL, tYes, rIn, L2.tMatch, L2.cIf, L2.cAny, L2.cNil, rIxL, rIxT, rEq, rNe, gSub, gNil, gCons, tPar, List.append_nil, L2.start, List.map_cons, List.map_nil, List.cons_append, List.nil_append, List.length_cons, List.length_nil, List.replicate, V.int.injEq, V.ref.injEq, V.bl.injEq, V.str.injEq, List.cons.injEq, Option.some.injEq, exists_eq_left, exists_eq_left', and_true, true_and, List.getElem?_cons_zero, List.getElem?_cons_succ, List.set_cons_zero, List.set_cons_succ, exists_and_left, exists_and_right, exists_eq', exists_eq, exists_eq_right, exists_eq_right', Nat.reduceAdd, Nat.reduceSub, decide_eq_true_eq, Bool.not_eq_true', decide_eq_false_iff_not, reduceCtorEq, false_and, and_false, or_false, false_or, exists_false, exists_const, Bool.false_eq_true, if_true, if_false]
  refine ⟨szl (by decide), fun t H1 ht g1 hx1 => ⟨szl (by decide), fun t2 H2 ht2 g2 hx2 => ⟨szl (by decide), fun l H3 hl g3 hx3 => ?_⟩⟩⟩
  have g13 := (g1.trans g2).trans g3
  have hnl : H l = none := (g1.trans g2).free hl
  refine ⟨v, d, n + 1, rfl, hP, Dp.same g13 hD, fun c ys H4 hc g4 hx4 hA4 => ⟨c, rfl, _, .inl (SqL.of hx4), ?_⟩⟩
  have hlen : ys.length = (kids d).length := hA4.len
  have hkl := hP.kids.2
  refine ⟨by omega, by omega, ?_⟩
  have hsl : ∀ i, i ≤ (kids d).length → noLs ((subTo n d i).map pr) = true := fun i hi => noLs_of fun e he => by
    obtain ⟨e', he', rfl⟩ := List.mem_map.mp he
    have : e' ∈ sub (n + 1) d := by
      rw [← subTo_all]
      rcases List.mem_cons.mp he' with rfl | he'
      · exact List.mem_cons_self ..
      · refine List.mem_cons_of_mem _ ?_
        obtain ⟨j, hj, hm⟩ := List.mem_flatMap.mp he'
        exact List.mem_flatMap.mpr ⟨j, List.mem_range.mpr (by have := List.mem_range.mp hj; omega), hm⟩
    exact noL_pr (sub_isP hP e' this).noL
  refine forB (walk_range (lo := 0) (n := ((ys.length : Nat) : Int).toNat)) (fun i σ H' => ∃ (o1 : Option V) (l' : Addr) (xs : List V), σ = [some v, some (.ref l'), some (.ref c), o1, none, none] ∧ H l' = none ∧ Same H4 H' ∧ H' l' = some (.lst xs) ∧ DpAll K H' xs ((subTo n d i).map pr) ∧ xs.length = (subTo n d i).length) ?_ ?_ ?_ ?_
  · refine ⟨none, l, _, rfl, hnl, Same.refl _, g4 _ _ hx3, .cons ?_ .nil, rfl⟩
    refine .ofT (g4 _ _ (g3 _ _ hx2)) (.cons ?_ (.cons (Dp.same (g13.trans g4) hD) .nil))
    exact .ofT (g4 _ _ (g3 _ _ (g2 _ _ hx1))) .nil
  · intros; trivial
  · rintro i x σ H5 H6 hi ⟨o1, l', xs, rfl, hl', g5, hx5, hA5, hxl⟩ ⟨rfl, rfl⟩
    have hi' : i < (kids d).length := by omega
    have hci : ys[i]? = some ys[i] := List.getElem?_eq_getElem (by omega)
    obtain ⟨cd, hcd, hDc⟩ := hA4.get hci
    have hPc : IsP n cd := hP.kids.1 cd (List.mem_of_getElem? hcd)
    have hcg : (kids d).getD i .none = cd := by rw [List.getD_eq_getElem?_getD, hcd]; rfl
    have ⟨hc1, hc2⟩ := cnt_kid (n := n) hi'
    rw [hcg] at hc1 hc2
    simp only [and_assoc, tSeq, tAsg, tIfS, tTest, tOp, tVar, tC, rI0, rI, tCB, tCons, tNil, gName, tNext, tRet, tRetN, tLst, tTup, tDrop, tUn, rU, tB, tAnd, tOr, tNot, tAndV, tOrV, tNotV, tIf, tCall, tSl, tBM, tBM0, rAppend, rExtend, StX.tStar, gTup, wipe, tPart, tNoPart, L2.cxOf_K, L2.NewA, L2.iZipM, L2.tTupA, L2.tLstA, L2.rCatL, L2.rRepL, L2.rCatTA, L2.rSlLA, L2.rSlTA, L2.tFor_eq, L2.tLc_eq, iList, iTup, iRng1, iRng2, iRng3, iEnum, iZip, rSetL, tYes, rIn, L2.tMatch, L2.cIf, L2.cAny, L2.cNil, rIxL, rIxT, rEq, rNe, gSub, gNil, gCons, tPar, List.append_nil, L2.start, List.map_cons, List.map_nil, List.cons_append, List.nil_append, List.length_cons, List.length_nil, List.replicate, V.int.injEq, V.ref.injEq, V.bl.injEq, V.str.injEq, List.cons.injEq, Option.some.injEq, exists_eq_left, exists_eq_left', and_true, true_and, List.getElem?_cons_zero, List.getElem?_cons_succ, List.set_cons_zero, List.set_cons_succ, exists_and_left, exists_and_right, exists_eq', exists_eq, exists_eq_right, exists_eq_right', Nat.reduceAdd, Nat.reduceSub, decide_eq_true_eq, Bool.not_eq_true', decide_eq_false_iff_not, reduceCtorEq, false_and, and_false, or_false, false_or, exists_false, exists_const, Bool.false_eq_true, if_true, if_false, Int.zero_add]
    refine ⟨_, SqL.of (g5 _ _ hx4), _, at_of (j := i) rfl hci, ?_⟩
    refine ⟨_, cd, rfl, hPc, by omega, by omega, Dp.same g5 hDc, fun r zs H7 hr g7 hx7 hA7 => ⟨r, rfl, ⟨_, SqL.of hx7⟩, ?_⟩⟩
    have hzl : zs.length = (sub n cd).length := by rw [hA7.len, List.length_map]
    have hzc : (sub n cd).length = cnt n cd := rfl
    refine lcB_data (K := K) (walk_list (xs := zs)) (fun _ => true) (fun j => subAtJ n cd i j) (fun j hj => noL_subAtJ hPc (by omega)) (fun H' g => g.seq (SqL.of hx7)) (by omega) (fun j x H8 H9 R R' hj g8 y kR _ => ?_) (fun D' us H8 hD' g8 hu hA8 => ?_)
    · obtain ⟨rfl, hx⟩ := y
      obtain ⟨T2, t2', ns, b, rfl, hS1, hS2, hDb, hns, hjl⟩ := pr_at hA7 hx
      have hpl : ns.length ≤ 1000 := by
        have := sub_path (n := n) (d := cd) _ (List.getElem_mem hjl)
        rw [← hns, List.getD_eq_getElem?_getD, List.getElem?_eq_getElem hjl]
        rcases this with h | h
        · simp only [Option.getD_some]; omega
        · rw [h] at hjl; exact absurd hjl (Nat.not_lt_zero _)
      simp only [and_assoc, tSeq, tAsg, tIfS, tTest, tOp, tVar, tC, rI0, rI, tCB, tCons, tNil, gName, tNext, tRet, tRetN, tLst, tTup, tDrop, tUn, rU, tB, tAnd, tOr, tNot, tAndV, tOrV, tNotV, tIf, tCall, tSl, tBM, tBM0, rAppend, rExtend, StX.tStar, gTup, wipe, tPart, tNoPart, L2.cxOf_K, L2.NewA, L2.iZipM, L2.tTupA, L2.tLstA, L2.rCatL, L2.rRepL, L2.rCatTA, L2.rSlLA, L2.rSlTA, L2.tFor_eq, L2.tLc_eq, iList, iTup, iRng1, iRng2, iRng3, iEnum, iZip, rSetL, tYes, rIn, L2.tMatch, L2.cIf, L2.cAny, L2.cNil, rIxL, rIxT, rEq, rNe, gSub, gNil, gCons, tPar, List.append_nil, L2.start, List.map_cons, List.map_nil, List.cons_append, List.nil_append, List.length_cons, List.length_nil, List.replicate, V.int.injEq, V.ref.injEq, V.bl.injEq, V.str.injEq, List.cons.injEq, Option.some.injEq, exists_eq_left, exists_eq_left', and_true, true_and, List.getElem?_cons_zero, List.getElem?_cons_succ, List.set_cons_zero, List.set_cons_succ, exists_and_left, exists_and_right, exists_eq', exists_eq, exists_eq_right, exists_eq_right', Nat.reduceAdd, Nat.reduceSub, decide_eq_true_eq, Bool.not_eq_true', decide_eq_false_iff_not, reduceCtorEq, false_and, and_false, or_false, false_or, exists_false, exists_const, Bool.false_eq_true, if_true, if_false]
      refine ⟨_, SqT.same g8 hS1, rfl, _, _, rfl, _, _, rfl, rfl, szl (by decide), fun p0 H9 hp0 g9 hx9 => ?_⟩
      refine ⟨t2', rfl, _, SqT.of hx9, _, SqT.same (g8.trans g9) hS2, szl (by simp; omega), fun p1 H10 g10 hx10 => ⟨szl (by decide), fun p2 H11 hp2 g11 hx11 => ?_⟩⟩
      refine kR rfl _ _ ((g9.trans g10).trans g11) ?_
      unfold subAtJ pr
      rw [hns]
      refine .ofT hx11 (.cons (.tup (SqT.same g11 hx10) (.cons (.int _) ?_)) (.cons (Dp.same (((g8.trans g9).trans g10).trans g11) hDb) .nil))
      exact DpAll.int
    · rw [range_all, hzl, subAtJ_all hcg] at hA8
      have gx := g7.trans g8
      have hul : us.length = (subAt n d i).length := by rw [hA8.len, List.length_map]
      have hsl' : (subAt n d i).length = cnt n cd := by unfold subAt cnt; rw [hcg, List.length_map]
      refine ⟨D', rfl, xs, gx _ _ hx5, us, hu, szl (by omega), fun p2 H9 hp2 g9 hx9 => ?_⟩
      refine ⟨((g13.trans g4).trans ((g5.trans gx))).free hp2, (g5.trans gx).trans g9, _, hx9, ?_, by rw [subTo_succ, List.length_append, List.length_append]; omega⟩
      rw [subTo_succ, List.map_append]
      exact DpAll.same g9 ((DpAll.same gx hA5).append hA8)
  · rintro σ H' ⟨o1, l', xs, rfl, hl', g5, hx5, hA5, hxl⟩
    rw [Int.toNat_natCast, hlen, subTo_all] at hA5
    simp only [and_assoc, tSeq, tAsg, tIfS, tTest, tOp, tVar, tC, rI0, rI, tCB, tCons, tNil, gName, tNext, tRet, tRetN, tLst, tTup, tDrop, tUn, rU, tB, tAnd, tOr, tNot, tAndV, tOrV, tNotV, tIf, tCall, tSl, tBM, tBM0, rAppend, rExtend, StX.tStar, gTup, wipe, tPart, tNoPart, L2.cxOf_K, L2.NewA, L2.iZipM, L2.tTupA, L2.tLstA, L2.rCatL, L2.rRepL, L2.rCatTA, L2.rSlLA, L2.rSlTA, L2.tFor_eq, L2.tLc_eq, iList, iTup, iRng1, iRng2, iRng3, iEnum, iZip, rSetL, tYes, rIn, L2.tMatch, L2.cIf, L2.cAny, L2.cNil, rIxL, rIxT, rEq, rNe, gSub, gNil, gCons, tPar, List.append_nil, L2.start, List.map_cons, List.map_nil, List.cons_append, List.nil_append, List.length_cons, List.length_nil, List.replicate, V.int.injEq, V.ref.injEq, V.bl.injEq, V.str.injEq, List.cons.injEq, Option.some.injEq, exists_eq_left, exists_eq_left', and_true, true_and, List.getElem?_cons_zero, List.getElem?_cons_succ, List.set_cons_zero, List.set_cons_succ, exists_and_left, exists_and_right, exists_eq', exists_eq, exists_eq_right, exists_eq_right', Nat.reduceAdd, Nat.reduceSub, decide_eq_true_eq, Bool.not_eq_true', decide_eq_false_iff_not, reduceCtorEq, false_and, and_false, or_false, false_or, exists_false, exists_const, Bool.false_eq_true, if_true, if_false]
    exact q l' xs H' hl' ((g13.trans g4).trans g5) hx5 hA5
end

end W

set_option Elab.async false
set_option linter.all false
set_option maxRecDepth 100000
set_option maxHeartbeats 4000000
namespace W
open PySem L2
open C8 (Cal pe_c pss_cut tCut)
/-! ### parts at their paths, parts put there -/
def partAt : PyData → List Int → PyData
  | d, [] => d
  | d, i :: r => partAt ((kids d).getD i.toNat .none) r
def VP : PyData → List Int → Prop
  | _, [] => True
  | d, i :: r => 0 ≤ i ∧ i.toNat < (kids d).length ∧ VP ((kids d).getD i.toNat .none) r
def withKids (d : PyData) (ks : List PyData) : PyData :=
  if kd d = "row" then .tuple [.str "row", .tuple ks]
  else if kd d = "choice" then .tuple [.str "choice", fld d 1, .tuple ((List.range ks.length).map fun i => .tuple [fld ((its (fld d 2)).getD i .none) 0, ks.getD i .none])]
  else if kd d = "cell" ∨ kd d = "need" ∨ kd d = "pad" then d else .tuple ((its d).dropLast ++ [ks.getD 0 .none])
def repl : PyData → List Int → PyData → PyData
  | _, [], o => o
  | d, i :: r, o => withKids d ((kids d).set i.toNat (repl ((kids d).getD i.toNat .none) r o))
theorem wk_row {ps ks : List PyData} : withKids (.tuple [.str "row", .tuple ps]) ks = .tuple [.str "row", .tuple ks] := by simp [withKids, kd]
theorem wk_leaf {k : Str} {fs ks : List PyData} (h : k ∈ leafKinds) : withKids (.tuple (.str k :: fs)) ks = .tuple (.str k :: fs) := by
  obtain ⟨h1, h2, h3⟩ := leaf_ne h
  simp [withKids, kd, h1, h2, h3]
theorem wk_one {k : Str} {fs ks : List PyData} {d : PyData} (h : k ∈ oneKinds) : withKids (.tuple (.str k :: (fs ++ [d]))) ks = .tuple (.str k :: (fs ++ [ks.getD 0 .none])) := by
  obtain ⟨h1, h2, h3⟩ := one_ne h
  rw [not_or, not_or] at h3
  have e : (PyData.str k :: (fs ++ [d])).dropLast = PyData.str k :: fs := by rw [← List.cons_append, List.dropLast_concat]
  simp only [withKids, kd, h1, h2, h3, or_self, if_false, its, e, List.cons_append]
def optD (os : List (Int × PyData)) (ks : List PyData) (i : Nat) : PyData := .tuple [.int (os.getD i (0, .none)).1, ks.getD i .none]
theorem wk_choice {m : PyData} {os : List (Int × PyData)} {ks : List PyData} (hl : ks.length = os.length) :
    withKids (.tuple [.str "choice", m, .tuple (os.map fun o => .tuple [.int o.1, o.2])]) ks = .tuple [.str "choice", m, .tuple ((List.range ks.length).map (optD os ks))] := by
  simp only [withKids, kd, row_ne_choice, if_false, if_true]
  congr 1
  simp only [fld, its, List.getD_cons_succ, List.getD_cons_zero]
  congr 3
  refine congrArg PyData.tuple ?_
  apply List.map_congr_left
  intro i hi
  have hi' : i < os.length := by have := List.mem_range.mp hi; omega
  simp [optD, fld, hi']
theorem withKids_isP {n m : Nat} {d : PyData} {ks : List PyData} (h : IsP n d) (hl : ks.length = (kids d).length) (hk : ∀ k ∈ ks, IsP m k) : IsP (m + 1) (withKids d ks) := by
  cases h with
  | leaf hk' hf => rw [wk_leaf hk']; exact .leaf hk' hf
  | row hp hl' => rw [wk_row]; rw [kids_row] at hl; exact .row hk (by omega)
  | choice hm hp h1 hl' =>
    rename_i os
    rw [kids_choice, List.length_map] at hl
    rw [wk_choice hl]
    have e : (List.range ks.length).map (optD os ks) = ((List.range ks.length).map fun i => ((os.getD i (0, .none)).1, ks.getD i .none)).map fun o => .tuple [.int o.1, o.2] := by
      rw [List.map_map]; rfl
    rw [e]
    refine .choice hm (fun o ho => ?_) (by simp; omega) (by simp; omega)
    obtain ⟨i, hi, rfl⟩ := List.mem_map.mp ho
    have hi' := List.mem_range.mp hi
    show IsP m (ks.getD i .none)
    rw [List.getD_eq_getElem?_getD, List.getElem?_eq_getElem hi']
    exact hk _ (List.getElem_mem hi')
  | one hk' hf ht hd =>
    rw [kids_one hk'] at hl
    rw [wk_one hk']
    refine .one hk' hf ht ?_
    cases ks with
    | nil => simp at hl
    | cons k ks => exact hk k (List.mem_cons_self ..)
theorem kid_mem {d : PyData} {i : Nat} (h : i < (kids d).length) : (kids d).getD i .none ∈ kids d := by
  rw [List.getD_eq_getElem?_getD, List.getElem?_eq_getElem h]
  exact List.getElem_mem h
theorem repl_isP {m : Nat} {o : PyData} (ho : IsP m o) : ∀ {p : List Int} {n : Nat} {d : PyData}, IsP n d → VP d p → IsP (n + m) (repl d p o)
  | [], n, d, _, _ => ho.mono (by omega)
  | i :: r, 0, d, h, _ => by cases h
  | i :: r, n + 1, d, h, hv => by
    obtain ⟨h0, h1, h2⟩ := hv
    have ih := repl_isP ho (p := r) (h.kids.1 _ (kid_mem h1)) h2
    have e : n + 1 + m = (n + m) + 1 := by omega
    rw [e]
    refine withKids_isP h (by rw [List.length_set]) fun k hk => ?_
    rcases List.mem_or_eq_of_mem_set hk with hk | rfl
    · exact (h.kids.1 k hk).mono (by omega)
    · exact ih
theorem partAt_isP : ∀ {p : List Int} {n : Nat} {d : PyData}, IsP n d → VP d p → IsP n (partAt d p)
  | [], n, d, h, _ => h
  | i :: r, 0, d, h, _ => by cases h
  | i :: r, n + 1, d, h, hv => (partAt_isP (p := r) (h.kids.1 _ (kid_mem hv.2.1)) hv.2.2).mono (by omega)
theorem sub_at : ∀ {n : Nat} {d : PyData}, ∀ e ∈ sub n d, VP d e.1 ∧ partAt d e.1 = e.2
  | 0, _, _, he => by cases he
  | n + 1, d, e, he => by
    simp only [sub, List.mem_cons, List.mem_flatMap, List.mem_range, List.mem_map] at he
    rcases he with rfl | ⟨i, hi, e', he', rfl⟩
    · exact ⟨trivial, rfl⟩
    · obtain ⟨h1, h2⟩ := sub_at e' he'
      exact ⟨⟨by simp, by simpa using hi, by simpa using h1⟩, by simpa [partAt] using h2⟩
theorem set_same {ks : List PyData} {i : Nat} (h : i < ks.length) : ks.set i (ks.getD i .none) = ks := by
  rw [List.getD_eq_getElem?_getD, List.getElem?_eq_getElem h]
  exact List.set_getElem_self h
theorem wk_same {n : Nat} {d : PyData} (h : IsP n d) : withKids d (kids d) = d := by
  cases h with
  | leaf hk hf => rw [wk_leaf hk]
  | row hp hl => rw [kids_row, wk_row]
  | choice hm hp h1 hl =>
    rename_i os
    rw [kids_choice, wk_choice (by simp)]
    have e : (List.range (os.map (·.2)).length).map (optD os (os.map (·.2))) = os.map fun o => .tuple [.int o.1, o.2] := ?_
    · rw [e]
    apply List.ext_getElem
    · simp
    · intro i h1 h2
      have h3 : i < os.length := by simpa using h1
      simp [optD, h3]
  | one hk hf ht hd => rw [kids_one hk, wk_one hk]; rfl
theorem repl_same : ∀ {p : List Int} {n : Nat} {d : PyData}, IsP n d → VP d p → repl d p (partAt d p) = d
  | [], _, _, _, _ => rfl
  | i :: r, 0, d, h, _ => by cases h
  | i :: r, n + 1, d, h, hv => by
    obtain ⟨h0, h1, h2⟩ := hv
    have ih := repl_same (p := r) (h.kids.1 _ (kid_mem h1)) h2
    show withKids d ((kids d).set i.toNat (repl ((kids d).getD i.toNat .none) r (partAt ((kids d).getD i.toNat .none) r))) = d
    rw [ih, set_same h1, wk_same h]
theorem partAt_append : ∀ {l r : List Int} {d : PyData}, partAt d (l ++ r) = partAt (partAt d l) r
  | [], _, _ => rfl
  | _ :: l, r, _ => partAt_append (l := l) (r := r)
def spAt (K : PySem.W.Frag) : Sp := fun vs H Q _ => ∃ (v : V) (d : PyData) (n : Nat) (t : Addr) (p : List Int), vs = [v, .ref t] ∧ IsP n d ∧ SqT K H t (p.map V.int) ∧ VP d p ∧ Dp K H v d ∧
  ∀ r H', Same H H' → Dp K H' r (partAt d p) → Q r H'
def spWk (K : PySem.W.Frag) : Sp := fun vs H Q _ => ∃ (v : V) (d : PyData) (n : Nat) (l : Addr) (ks : List V) (ds : List PyData), vs = [v, .ref l] ∧ IsP n d ∧ SqL K H l ks ∧ DpAll K H ks ds ∧ noLs ds = true ∧ ds.length = (kids d).length ∧ Dp K H v d ∧
  ∀ r H', Same H H' → Dp K H' r (withKids d ds) → Q r H'
def spRep (K : PySem.W.Frag) (m : Nat) : Sp := fun vs H Q _ => ∃ (v u : V) (d o : PyData) (n k : Nat) (t : Addr) (p : List Int), vs = [v, .ref t, u] ∧ IsP n d ∧ IsP k o ∧ SqT K H t (p.map V.int) ∧ p.length < m ∧ m ≤ 1000 ∧ VP d p ∧ Dp K H v d ∧ Dp K H u o ∧
  ∀ r H', Same H H' → Dp K H' r (repl d p o) → Q r H'

abbrev s_at : Stmt := (topS 4)
theorem sc_at : FnScope ["part", "path", "index"] ["part", "path"] (defScope s_at) := ⟨rfl, rfl, rfl, by decide +kernel, rfl, by decide +kernel, by decide +kernel⟩
abbrev s_wk : Stmt := (topS 5)
theorem sc_wk : FnScope ["part", "inner", "option", "other"] ["part", "inner"] (defScope s_wk) := ⟨rfl, rfl, rfl, by decide +kernel, rfl, by decide +kernel, by decide +kernel⟩
abbrev s_rep : Stmt := (topS 6)
theorem sc_rep : FnScope ["part", "path", "other", "inner"] ["part", "path", "other"] (defScope s_rep) := ⟨rfl, rfl, rfl, by decide +kernel, rfl, by decide +kernel, by decide +kernel⟩
abbrev s_lrep : Stmt := (topS 17)
theorem sc_lrep : FnScope ["part", "path", "other", "inner", "option", "below"] ["part", "path", "other"] (defScope s_lrep) := ⟨rfl, rfl, rfl, by decide +kernel, rfl, by decide +kernel, by decide +kernel⟩
section
variable {P : Program} {w : World} {K : PySem.W.Frag} {mg : Str → Option Value} {base : Heap} {f : Addr} {fd : FuncData}
theorem ok_at (D : Dfn K mg "part_at" s_at ["part", "path"] f fd) (T : Bn mg) (cC : Cal P w K mg base 1 "children" (spKids K) []) : Cal P w K mg base 2 "part_at" (spAt K) [] := by
  refine D.cal (D.F.ok sc_at (fun vs H Q E h => ?_) (fun cdv A outer s H vs Q E hr h => ?_))
  · obtain ⟨v, d, n, t, p, rfl, _⟩ := h
    rfl
  obtain ⟨v, d, n, t, p, rfl, hP, hT, hV, hD, q⟩ := h
  refine ⟨_, (pss_cons (ps_for PassesOwn.never rfl (kpi_tup K (pv 1)) (pg_name (i := 2) sc_at.nd rfl (Or.inl rfl))
      (pss_one (ps_set (i := 0) sc_at.nd rfl (Or.inl rfl) (pe_ix (kix_list K) (pe_c cC hr (by omega) rfl (pa_cons (pv 0) pa_nil)) (pv 2) (fun _ _ => rfl)))))
    (pss_one (ps_ret (pv 0)))), ?_⟩
  simp only [and_assoc, tSeq, tAsg, tIfS, tTest, tOp, tVar, tC, rI0, rI, tCB, tCons, tNil, gName, tNext, tRet, tRetN, tLst, tTup, tDrop, tUn, rU, tB, tAnd, tOr, tNot, tAndV, tOrV, tNotV, tIf, tCall, tSl, tBM, tBM0, rAppend, rExtend, StX.tStar, gTup, wipe, tPart, tNoPart, L2.cxOf_K, L2.NewA, L2.iZipM, L2.tTupA, L2.tLstA, L2.rCatL, L2.rRepL, L2.rCatTA, L2.rSlLA, L2.rSlTA, L2.tFor_eq, L2.tLc_eq, iList, iTup, iRng1, iRng2, iRng3, iEnum, iZip, rSetL, tYes, rIn, L2.tMatch, L2.cIf, L2.cAny, L2.cNil, rIxL, rIxT, rEq, rNe, gSub, gNil, gCons, tPar, List.append_nil, L2.start, List.map_cons, List.map_nil, List.cons_append, List.nil_append, List.length_cons, List.length_nil, List.replicate, V.int.injEq, V.ref.injEq, V.bl.injEq, V.str.injEq, List.cons.injEq, Option.some.injEq, exists_eq_left, exists_eq_left', and_true, true_and, List.getElem?_cons_zero, List.getElem?_cons_succ, List.set_cons_zero, List.set_cons_succ, exists_and_left, exists_and_right, exists_eq', exists_eq, exists_eq_right, exists_eq_right', Nat.reduceAdd, Nat.reduceSub, decide_eq_true_eq, Bool.not_eq_true', decide_eq_false_iff_not, reduceCtorEq, false_and, and_false, or_false, false_or, exists_false, exists_const, Bool.false_eq_true, if_true, if_false]
  refine ⟨⟨_, hT⟩, forB (walk_tup (K := K) (xs := p.map V.int)) (fun i σ H' => ∃ (v' : V) (o : Option V) (m : Nat), σ = [some v', some (.ref t), o] ∧ Same H H' ∧ IsP m (partAt d (p.take i)) ∧ VP (partAt d (p.take i)) (p.drop i) ∧ partAt (partAt d (p.take i)) (p.drop i) = partAt d p ∧ Dp K H' v' (partAt d (p.take i))) ?_ ?_ ?_ ?_⟩
  · exact ⟨v, none, n, rfl, Same.refl _, hP, hV, rfl, hD⟩
  · rintro i σ H' _ ⟨v', o, m, _, g, _⟩
    exact SqT.same g hT
  · rintro i x σ H5 H6 hi ⟨v', o, m, rfl, g, hPm, hVm, hpa, hDm⟩ ⟨rfl, hx⟩
    have hi' : i < p.length := by simpa using hi
    rw [List.getElem?_map, List.getElem?_eq_getElem hi'] at hx
    cases hx
    rw [List.drop_eq_getElem_cons hi'] at hVm hpa
    obtain ⟨h0, h1, h2⟩ := hVm
    have et : partAt d (p.take (i + 1)) = (kids (partAt d (p.take i))).getD p[i].toNat .none := by
      rw [List.take_succ_eq_append_getElem hi', partAt_append]
      rfl
    simp only [and_assoc, tSeq, tAsg, tIfS, tTest, tOp, tVar, tC, rI0, rI, tCB, tCons, tNil, gName, tNext, tRet, tRetN, tLst, tTup, tDrop, tUn, rU, tB, tAnd, tOr, tNot, tAndV, tOrV, tNotV, tIf, tCall, tSl, tBM, tBM0, rAppend, rExtend, StX.tStar, gTup, wipe, tPart, tNoPart, L2.cxOf_K, L2.NewA, L2.iZipM, L2.tTupA, L2.tLstA, L2.rCatL, L2.rRepL, L2.rCatTA, L2.rSlLA, L2.rSlTA, L2.tFor_eq, L2.tLc_eq, iList, iTup, iRng1, iRng2, iRng3, iEnum, iZip, rSetL, tYes, rIn, L2.tMatch, L2.cIf, L2.cAny, L2.cNil, rIxL, rIxT, rEq, rNe, gSub, gNil, gCons, tPar, List.append_nil, L2.start, List.map_cons, List.map_nil, List.cons_append, List.nil_append, List.length_cons, List.length_nil, List.replicate, V.int.injEq, V.ref.injEq, V.bl.injEq, V.str.injEq, List.cons.injEq, Option.some.injEq, exists_eq_left, exists_eq_left', and_true, true_and, List.getElem?_cons_zero, List.getElem?_cons_succ, List.set_cons_zero, List.set_cons_succ, exists_and_left, exists_and_right, exists_eq', exists_eq, exists_eq_right, exists_eq_right', Nat.reduceAdd, Nat.reduceSub, decide_eq_true_eq, Bool.not_eq_true', decide_eq_false_iff_not, reduceCtorEq, false_and, and_false, or_false, false_or, exists_false, exists_const, Bool.false_eq_true, if_true, if_false]
    refine ⟨v', _, m, rfl, hPm, hDm, fun c ys H7 hc g7 hx7 hA7 => ⟨c, rfl, _, SqL.of hx7, ?_⟩⟩
    obtain ⟨y, hy, hDy⟩ := hA7.getD (List.getElem?_eq_getElem h1)
    have ed : (kids (partAt d (p.take i))).getD p[i].toNat .none = (kids (partAt d (p.take i)))[p[i].toNat] := by rw [List.getD_eq_getElem?_getD, List.getElem?_eq_getElem h1]; rfl
    refine ⟨y, at_of (j := p[i].toNat) (by omega) hy, g.trans g7, ?_⟩
    rw [et]
    cases m with
    | zero => cases hPm
    | succ m => exact ⟨⟨m, hPm.kids.1 _ (kid_mem h1)⟩, h2, hpa, by rw [ed]; exact hDy⟩
  · rintro σ H' ⟨v', o, m, rfl, g, hPm, hVm, hpa, hDm⟩
    simp only [and_assoc, tSeq, tAsg, tIfS, tTest, tOp, tVar, tC, rI0, rI, tCB, tCons, tNil, gName, tNext, tRet, tRetN, tLst, tTup, tDrop, tUn, rU, tB, tAnd, tOr, tNot, tAndV, tOrV, tNotV, tIf, tCall, tSl, tBM, tBM0, rAppend, rExtend, StX.tStar, gTup, wipe, tPart, tNoPart, L2.cxOf_K, L2.NewA, L2.iZipM, L2.tTupA, L2.tLstA, L2.rCatL, L2.rRepL, L2.rCatTA, L2.rSlLA, L2.rSlTA, L2.tFor_eq, L2.tLc_eq, iList, iTup, iRng1, iRng2, iRng3, iEnum, iZip, rSetL, tYes, rIn, L2.tMatch, L2.cIf, L2.cAny, L2.cNil, rIxL, rIxT, rEq, rNe, gSub, gNil, gCons, tPar, List.append_nil, L2.start, List.map_cons, List.map_nil, List.cons_append, List.nil_append, List.length_cons, List.length_nil, List.replicate, V.int.injEq, V.ref.injEq, V.bl.injEq, V.str.injEq, List.cons.injEq, Option.some.injEq, exists_eq_left, exists_eq_left', and_true, true_and, List.getElem?_cons_zero, List.getElem?_cons_succ, List.set_cons_zero, List.set_cons_succ, exists_and_left, exists_and_right, exists_eq', exists_eq, exists_eq_right, exists_eq_right', Nat.reduceAdd, Nat.reduceSub, decide_eq_true_eq, Bool.not_eq_true', decide_eq_false_iff_not, reduceCtorEq, false_and, and_false, or_false, false_or, exists_false, exists_const, Bool.false_eq_true, if_true, if_false]
    rw [List.length_map, List.take_length] at hDm
    exact q _ _ g hDm
theorem ok_wk (D : Dfn K mg "with_children" s_wk ["part", "inner"] f fd) (T : Bn mg) : Cal P w K mg base 1 "with_children" (spWk K) [] := by
  refine D.cal (D.F.ok sc_wk (fun vs H Q E h => ?_) (fun cdv A outer s H vs Q E hr h => ?_))
  · obtain ⟨v, d, n, l, ks, ds, rfl, _⟩ := h
    rfl
  obtain ⟨v, d, n, l, ks, ds, rfl, hP, hL, hA, hno, hlen, hD, q⟩ := h
  refine ⟨_, (pss_one (ps_match (pe_ix (kix_tup K) (pv 0) pe_int (fun _ _ => rfl))
      (pcs_cons pp_val (pss_one (ps_ret (pe_tupA (pa_cons pe_str (pa_cons (pe_callTy (kcall_tuple_of K) (by rfl) T.tuple (by decide +kernel) (pa_cons (pv 1) pa_nil)) pa_nil)))))
      (pcs_cons pp_val (pss_one (ps_ret (pe_tupA (pa_cons pe_str (pa_cons (pe_ix (kix_tup K) (pv 0) pe_int (fun _ _ => rfl)) (pa_cons (pe_callTy (kcall_tuple_of K) (by rfl) T.tuple (by decide +kernel) (pa_cons (pe_lc (own := [("option", 2), ("other", 3)]) (g := gTup K 2 (gCons (gName 2) (gCons (gName 3) gNil))) (tt := tYes) (by rfl) sc_wk.nd (pi_zipM K (by rfl) T.zip (pa_cons (pe_ix (kix_tup K) (pv 0) pe_int (fun _ _ => rfl)) (pa_cons (pv 1) pa_nil))) (blkOk_by (own := [("option", 2), ("other", 3)]) (N := ["part", "inner", "option", "other"]) (sc := defScope s_wk) (by decide +kernel)) (fun _ _ _ _ _ => (kpg_tup K (n := 2) rfl (pgs_cons (pg_name (i := 2) sc_wk.nd rfl (Or.inl rfl)) (pgs_cons (pg_name (i := 3) sc_wk.nd rfl (Or.inl rfl)) pgs_nil)))) (fun _ _ _ _ _ => pts_nil) (fun _ _ _ _ _ => (pe_tupA (pa_cons (pe_ix (kix_tup K) (pv 2) pe_int (fun _ _ => rfl)) (pa_cons (pv 3) pa_nil))))) pa_nil)) pa_nil))))))
      (pcs_cons (pp_or (pf_cons pp_val (pf_cons pp_val (pf_cons pp_val pf_nil)))) (pss_one (ps_ret (pv 0)))
      (pcs_any (pss_one (ps_ret (pe_tupA (kpa_star K (pe_slice (ksl_tupA K) (pv 0) po_none (po_some (pe_un un_neg pe_int))) (pa_cons (pe_ix (kix_list K) (pv 1) pe_int (fun _ _ => rfl)) pa_nil))))))))))), ?_⟩
  simp only [and_assoc, tSeq, tAsg, tIfS, tTest, tOp, tVar, tC, rI0, rI, tCB, tCons, tNil, gName, tNext, tRet, tRetN, tLst, tTup, tDrop, tUn, rU, tB, tAnd, tOr, tNot, tAndV, tOrV, tNotV, tIf, tCall, tSl, tBM, tBM0, rAppend, rExtend, StX.tStar, gTup, wipe, tPart, tNoPart, L2.cxOf_K, L2.NewA, L2.iZipM, L2.tTupA, L2.tLstA, L2.rCatL, L2.rRepL, L2.rCatTA, L2.rSlLA, L2.rSlTA, L2.tFor_eq, L2.tLc_eq, iList, iTup, iRng1, iRng2, iRng3, iEnum, iZip, rSetL, tYes, rIn, L2.tMatch, L2.cIf, L2.cAny, L2.cNil, rIxL, rIxT, rEq, rNe, gSub, gNil, gCons, tPar, List.append_nil, L2.start, List.map_cons, List.map_nil, List.cons_append, List.nil_append, List.length_cons, List.length_nil, List.replicate, V.int.injEq, V.ref.injEq, V.bl.injEq, V.str.injEq, List.cons.injEq, Option.some.injEq, exists_eq_left, exists_eq_left', and_true, true_and, List.getElem?_cons_zero, List.getElem?_cons_succ, List.set_cons_zero, List.set_cons_succ, exists_and_left, exists_and_right, exists_eq', exists_eq, exists_eq_right, exists_eq_right', Nat.reduceAdd, Nat.reduceSub, decide_eq_true_eq, Bool.not_eq_true', decide_eq_false_iff_not, reduceCtorEq, false_and, and_false, or_false, false_or, exists_false, exists_const, Bool.false_eq_true, if_true, if_false]
  cases hP with
  | leaf hk hf =>
    obtain ⟨a, xs, rfl, hS, hA'⟩ := hD.tupI
    obtain ⟨v0, r, rfl, h0, hr'⟩ := hA'.consI
    cases h0.strI
    obtain ⟨h1, h2, h3⟩ := leaf_ne hk
    refine ⟨a, rfl, _, hS, _, at0, _, rfl, iteN h1 ⟨_, rfl, iteN h2 ⟨_, rfl, iteP (leaf_test.mpr h3) (q _ _ (Same.refl _) ?_)⟩⟩⟩
    rw [wk_leaf hk]
    exact hD
  | row hp hl =>
    obtain ⟨a, xs, rfl, hS, hA'⟩ := hD.tupI
    obtain ⟨v0, r, rfl, h0, hr'⟩ := hA'.consI
    cases h0.strI
    refine ⟨a, rfl, _, hS, _, at0, _, rfl, iteP rfl ⟨_, .inl hL, fun t H2 g2 hT2 => ⟨szl (by decide), fun p H3 hp g3 hx3 => q _ _ (g2.trans g3) ?_⟩⟩⟩
    rw [wk_row]
    exact .ofT hx3 (.cons (.str _) (.cons (.tup (SqT.same g3 hT2) (DpAll.same (g2.trans g3) hA)) .nil))
  | choice hm hp h1 hl =>
    rename_i n m os
    obtain ⟨a, xs, rfl, hS, hA'⟩ := hD.tupI
    obtain ⟨v0, r, rfl, h0, hr'⟩ := hA'.consI
    cases h0.strI
    obtain ⟨v1, r, rfl, hv1, hr'⟩ := hr'.consI
    obtain ⟨v2, r, rfl, h2, hr'⟩ := hr'.consI
    cases hr'.nilI
    obtain ⟨b, ys, rfl, hS2, hA2⟩ := h2.tupI
    rw [kids_choice, List.length_map] at hlen
    have hyl : ys.length = os.length := by rw [hA2.len, List.length_map]
    have hkl : ks.length = os.length := by rw [hA.len, hlen]
    refine ⟨a, rfl, _, hS, _, at0, _, rfl, iteN row_ne_choice ⟨_, rfl, iteP rfl ⟨a, rfl, _, hS, _, at1, a, rfl, _, hS, _, at2, b, rfl, ⟨_, hS2⟩, ⟨_, hL⟩, ?_⟩⟩⟩
    refine lcB_data (K := K) (walk_zipM (us := ys) (ws := ks) (n := os.length) hyl hkl) (fun _ => true) (optD os ds) (fun i hi => ?_) (fun H' g => ⟨SqT.same g hS2, g.seq hL⟩) (by omega) (fun i x H1 H' R R' hi g1 y kR _ => ?_) (fun D' zs H' hD' g hz hA3 => ?_)
    · simp only [optD, noL, noLs, Bool.true_and, Bool.and_true]
      refine noLs_mem hno _ ?_
      rw [List.getD_eq_getElem?_getD, List.getElem?_eq_getElem (by omega)]
      exact List.getElem_mem _
    · obtain ⟨T', x', y', rfl, hT', rfl, e1, e2⟩ := y
      obtain ⟨o, ho, hDo⟩ := hA2.get e1
      rw [List.getElem?_map, List.getElem?_eq_getElem hi] at ho
      cases ho
      obtain ⟨b', zs, rfl, hSo, hAo⟩ := hDo.tupI
      obtain ⟨w0, r, rfl, hw0, hr'⟩ := hAo.consI
      cases hw0.intI
      obtain ⟨k', hk', hDk⟩ := hA.get e2
      have gT := same_new hT' (.tup [.ref b', y'])
      simp only [and_assoc, tSeq, tAsg, tIfS, tTest, tOp, tVar, tC, rI0, rI, tCB, tCons, tNil, gName, tNext, tRet, tRetN, tLst, tTup, tDrop, tUn, rU, tB, tAnd, tOr, tNot, tAndV, tOrV, tNotV, tIf, tCall, tSl, tBM, tBM0, rAppend, rExtend, StX.tStar, gTup, wipe, tPart, tNoPart, L2.cxOf_K, L2.NewA, L2.iZipM, L2.tTupA, L2.tLstA, L2.rCatL, L2.rRepL, L2.rCatTA, L2.rSlLA, L2.rSlTA, L2.tFor_eq, L2.tLc_eq, iList, iTup, iRng1, iRng2, iRng3, iEnum, iZip, rSetL, tYes, rIn, L2.tMatch, L2.cIf, L2.cAny, L2.cNil, rIxL, rIxT, rEq, rNe, gSub, gNil, gCons, tPar, List.append_nil, L2.start, List.map_cons, List.map_nil, List.cons_append, List.nil_append, List.length_cons, List.length_nil, List.replicate, V.int.injEq, V.ref.injEq, V.bl.injEq, V.str.injEq, List.cons.injEq, Option.some.injEq, exists_eq_left, exists_eq_left', and_true, true_and, List.getElem?_cons_zero, List.getElem?_cons_succ, List.set_cons_zero, List.set_cons_succ, exists_and_left, exists_and_right, exists_eq', exists_eq, exists_eq_right, exists_eq_right', Nat.reduceAdd, Nat.reduceSub, decide_eq_true_eq, Bool.not_eq_true', decide_eq_false_iff_not, reduceCtorEq, false_and, and_false, or_false, false_or, exists_false, exists_const, Bool.false_eq_true, if_true, if_false]
      refine ⟨_, SqT.of upd_same, rfl, _, _, rfl, _, _, rfl, rfl, b', rfl, _, SqT.same (g1.trans gT) hSo, _, at0, szl (by decide), fun p H3 hp g3 hx3 => kR rfl _ _ (gT.trans g3) ?_⟩
      unfold optD
      rw [List.getD_eq_getElem?_getD, List.getElem?_eq_getElem hi, List.getD_eq_getElem?_getD, hk']
      exact .ofT hx3 (.cons (.int _) (.cons (Dp.same ((g1.trans gT).trans g3) hDk) .nil))
    · refine ⟨D', rfl, _, .inl (SqL.of hz), fun t H2 g2 hT2 => ⟨szl (by decide), fun p H3 hp g3 hx3 => q _ _ ((g.trans g2).trans g3) ?_⟩⟩
      rw [wk_choice (by omega)]
      rw [range_all, ← hlen] at hA3
      exact .ofT hx3 (.cons (.str _) (.cons (Dp.same ((g.trans g2).trans g3) hv1) (.cons (.tup (SqT.same g3 hT2) (DpAll.same (g2.trans g3) hA3)) .nil)))
  | one hk hf ht hd =>
    obtain ⟨a, xs, rfl, hS, hA'⟩ := hD.tupI
    obtain ⟨v0, r, rfl, h0, hr'⟩ := hA'.consI
    cases h0.strI
    obtain ⟨h1, h2, h3⟩ := one_ne hk
    obtain ⟨us, ws, rfl, hu, hw⟩ := hr'.appI
    obtain ⟨v1, r, rfl, h4, hr'⟩ := hw.consI
    cases hr'.nilI
    rw [kids_one hk] at hlen
    obtain ⟨d1, ds', rfl⟩ : ∃ d1 ds', ds = d1 :: ds' := by
      cases ds with
      | nil => simp at hlen
      | cons d1 ds' => exact ⟨_, _, rfl⟩
    obtain ⟨k1, ks', rfl, hk1, _⟩ := hA.consI
    refine ⟨a, rfl, _, hS, _, at0, _, rfl, iteN h1 ⟨_, rfl, iteN h2 ⟨_, rfl, iteN (fun z => h3 (leaf_test.mp z)) ⟨a, rfl, _, hS, fun p H2 g2 hT2 => ?_⟩⟩⟩⟩
    rw [← List.cons_append, cut_last] at hT2
    have hsz : us.length ≤ 1000 := by
      have := hu.len
      have := hf.2
      omega
    refine ⟨_, .inl hT2, _, g2.seq hL, _, at0, szl (by simp; omega), fun p3 H3 hp3 g3 hx3 => q _ _ (g2.trans g3) ?_⟩
    rw [wk_one hk]
    exact .ofT hx3 (.cons (.str _) ((DpAll.same (g2.trans g3) hu).append (.cons (Dp.same (g2.trans g3) hk1) .nil)))
theorem ok_rep {m : Nat} (D : Dfn K mg "replaced" s_rep ["part", "path", "other"] f fd) (T : Bn mg) (cC : Cal P w K mg base 1 "children" (spKids K) []) (cW : Cal P w K mg base 1 "with_children" (spWk K) []) (cR : Cal P w K mg base (m + 1) "replaced" (spRep K m) []) :
    Cal P w K mg base (m + 2) "replaced" (spRep K (m + 1)) [] := by
  refine D.cal (D.F.ok sc_rep (fun vs H Q E h => ?_) (fun cdv A outer s H vs Q E hr h => ?_))
  · obtain ⟨v, u, d, o, n, k, t, p, rfl, _⟩ := h
    rfl
  obtain ⟨v, u, d, o, n, k, t, p, rfl, hP, hO, hT, hpl, hm, hV, hD, hU, q⟩ := h
  have hu64 := hr.units
  refine ⟨_, (pss_cons (ps_if (pt_cmpR (kop_eqD K rfl hu64) (pv 1) (pe_tupA pa_nil) (nomark _))
      (pss_one (ps_ret (pv 2)))
      pss_nil)
    (pss_cons (ps_set (i := 3) sc_rep.nd rfl (Or.inl rfl) (pe_c cC hr (by omega) rfl (pa_cons (pv 0) pa_nil)))
    (pss_cons (ps_asg (pe_c cR hr (by omega) rfl (pa_cons (pe_ix (kix_list K) (pv 3) (pe_ix (kix_tup K) (pv 1) pe_int (fun _ _ => rfl)) (fun _ _ => rfl)) (pa_cons (pe_slice (ksl_tupA K) (pv 1) (po_some pe_int) po_none) (pa_cons (pv 2) pa_nil)))) (pg_sub (pv 3) (pe_ix (kix_tup K) (pv 1) pe_int (fun _ _ => rfl)) set_list))
    (pss_one (ps_ret (pe_c cW hr (by omega) rfl (pa_cons (pv 0) (pa_cons (pv 3) pa_nil)))))))), ?_⟩
  simp only [and_assoc, tSeq, tAsg, tIfS, tTest, tOp, tVar, tC, rI0, rI, tCB, tCons, tNil, gName, tNext, tRet, tRetN, tLst, tTup, tDrop, tUn, rU, tB, tAnd, tOr, tNot, tAndV, tOrV, tNotV, tIf, tCall, tSl, tBM, tBM0, rAppend, rExtend, StX.tStar, gTup, wipe, tPart, tNoPart, L2.cxOf_K, L2.NewA, L2.iZipM, L2.tTupA, L2.tLstA, L2.rCatL, L2.rRepL, L2.rCatTA, L2.rSlLA, L2.rSlTA, L2.tFor_eq, L2.tLc_eq, iList, iTup, iRng1, iRng2, iRng3, iEnum, iZip, rSetL, tYes, rIn, L2.tMatch, L2.cIf, L2.cAny, L2.cNil, rIxL, rIxT, rEq, rNe, gSub, gNil, gCons, tPar, List.append_nil, L2.start, List.map_cons, List.map_nil, List.cons_append, List.nil_append, List.length_cons, List.length_nil, List.replicate, V.int.injEq, V.ref.injEq, V.bl.injEq, V.str.injEq, List.cons.injEq, Option.some.injEq, exists_eq_left, exists_eq_left', and_true, true_and, List.getElem?_cons_zero, List.getElem?_cons_succ, List.set_cons_zero, List.set_cons_succ, exists_and_left, exists_and_right, exists_eq', exists_eq, exists_eq_right, exists_eq_right', Nat.reduceAdd, Nat.reduceSub, decide_eq_true_eq, Bool.not_eq_true', decide_eq_false_iff_not, reduceCtorEq, false_and, and_false, or_false, false_or, exists_false, exists_const, Bool.false_eq_true, if_true, if_false]
  refine ⟨Nat.zero_le _, fun e1 H1 he1 g1 hx1 => ?_⟩
  have hTD : Dp K H1 (.ref t) (.tuple (p.map .int)) := .tup (SqT.same g1 hT) DpAll.int
  refine ⟨_, .tuple [], hTD, .ofT hx1 .nil, (Laid.tuple (m := 0) fun z hz => by obtain ⟨i, _, rfl⟩ := List.mem_map.mp hz; exact Laid.int).shaped (by decide), rfl, _, rfl, ?_⟩
  cases p with
  | nil => exact iteP rfl (q _ _ g1 (Dp.same g1 hU))
  | cons i r =>
    refine iteN (by simp [PyData.eqv, PyData.eqvAll]) ?_
    obtain ⟨h0, h1, h2⟩ := hV
    refine ⟨v, d, n, rfl, hP, Dp.same g1 hD, fun c ys H2 hc g2 hx2 hA2 => ?_⟩
    obtain ⟨y, hy, hDy⟩ := hA2.getD (List.getElem?_eq_getElem h1)
    have ed : (kids d).getD i.toNat .none = (kids d)[i.toNat] := by rw [List.getD_eq_getElem?_getD, List.getElem?_eq_getElem h1]; rfl
    have g12 := g1.trans g2
    refine ⟨_, SqT.same g12 hT, _, at0, c, rfl, _, _, rfl, SqL.of hx2, _, at_of (j := i.toNat) (by omega) hy, _, SqT.same g12 hT, fun t3 H3 g3 hT3 => ?_⟩
    rw [cut_from1] at hT3
    have g13 := g12.trans g3
    refine ⟨y, u, (kids d).getD i.toNat .none, o, n - 1, k, t3, r, rfl, ?_, hO, hT3, by simp at hpl; omega, by omega, h2, by rw [ed]; exact Dp.same g3 hDy, Dp.same g13 hU, fun z H4 g4 hz => ?_⟩
    · cases n with
      | zero => cases hP
      | succ n => exact hP.kids.1 _ (kid_mem h1)
    have g14 := g13.trans g4
    have hc4 : H4 c = some (.lst ys) := g4 _ _ (g3 _ _ hx2)
    have hnc : H c = none := g1.free hc
    have hyl : ys.length = (kids d).length := hA2.len
    have hix : ixN ys.length i = some i.toNat := by
      unfold ixN
      rw [if_pos h0, if_pos (by omega)]
    have hIP : ∃ n', n = n' + 1 := by
      cases n with
      | zero => cases hP
      | succ n => exact ⟨n, rfl⟩
    obtain ⟨n', rfl⟩ := hIP
    have hrp : IsP (n' + k) (repl ((kids d).getD i.toNat .none) r o) := repl_isP hO (hP.kids.1 _ (kid_mem h1)) h2
    have hnl : noLs ((kids d).set i.toNat (repl ((kids d).getD i.toNat .none) r o)) = true := noLs_of fun e he => by
      rcases List.mem_or_eq_of_mem_set he with he | rfl
      · exact (hP.kids.1 e he).noL
      · exact hrp.noL
    have ts : TSame H4 (upd H4 c (.lst (ys.set i.toNat z))) := ts_lst (TSame.refl _) hc4 _
    have hA5 : DpAll K (upd H4 c (.lst (ys.set i.toNat z))) (ys.set i.toNat z) ((kids d).set i.toNat (repl ((kids d).getD i.toNat .none) r o)) := DpAll.ts ts hnl (DpAll.set _ (DpAll.same (g3.trans g4) hA2) hz)
    have hD5 : Dp K (upd H4 c (.lst (ys.set i.toNat z))) v d := Dp.ts ts hP.noL (Dp.same g14 hD)
    have gS : Same H (upd H4 c (.lst (ys.set i.toNat z))) := same_mut g14 hnc _
    have hx5 : (upd H4 c (.lst (ys.set i.toNat z))) c = some (.lst (ys.set i.toNat z)) := upd_same
    refine ⟨_, SqT.same g14 hT, _, at0, c, rfl, _, _, rfl, hc4, _, hix, ?_⟩
    generalize upd H4 c (.lst (ys.set i.toNat z)) = H5 at hA5 hD5 gS hx5 ts ⊢
    refine ⟨v, d, _, c, _, _, rfl, hP, SqL.of hx5, hA5, hnl, by rw [List.length_set], hD5, fun z2 H6 g6 hz2 => q _ _ (gS.trans g6) hz2⟩
theorem ok_lrep {m : Nat} (D : Dfn K mg "_law_changed" s_lrep ["part", "path", "other"] f fd) (T : Bn mg) (cC : Cal P w K mg base 1 "_law_children" (spKids K) []) (cR : Cal P w K mg base (m + 1) "_law_changed" (spRep K m) []) :
    Cal P w K mg base (m + 2) "_law_changed" (spRep K (m + 1)) [] := by
  refine D.cal (D.F.ok sc_lrep (fun vs H Q E h => ?_) (fun cdv A outer s H vs Q E hr h => ?_))
  · obtain ⟨v, u, d, o, n, k, t, p, rfl, _⟩ := h
    rfl
  obtain ⟨v, u, d, o, n, k, t, p, rfl, hP, hO, hT, hpl, hm, hV, hD, hU, q⟩ := h
  have hu64 := hr.units
  refine ⟨_, (pss_cons (ps_if (pt_cmpR (kop_eqD K rfl hu64) (pv 1) (pe_tupA pa_nil) (nomark _))
      (pss_one (ps_ret (pv 2)))
      pss_nil)
    (pss_cons (ps_set (i := 3) sc_lrep.nd rfl (Or.inl rfl) (pe_c cC hr (by omega) rfl (pa_cons (pv 0) pa_nil)))
    (pss_cons (ps_asg (pe_c cR hr (by omega) rfl (pa_cons (pe_ix (kix_list K) (pv 3) (pe_ix (kix_tup K) (pv 1) pe_int (fun _ _ => rfl)) (fun _ _ => rfl)) (pa_cons (pe_slice (ksl_tupA K) (pv 1) (po_some pe_int) po_none) (pa_cons (pv 2) pa_nil)))) (pg_sub (pv 3) (pe_ix (kix_tup K) (pv 1) pe_int (fun _ _ => rfl)) set_list))
    (pss_cons (ps_if (pt_cmpR op_eq (pe_ix (kix_tup K) (pv 0) pe_int (fun _ _ => rfl)) pe_str (nomark _))
      (pss_one (ps_ret (pe_tupA (pa_cons pe_str (pa_cons (pe_callTy (kcall_tuple_of K) (by rfl) T.tuple (by decide +kernel) (pa_cons (pv 3) pa_nil)) pa_nil)))))
      pss_nil)
    (pss_cons (ps_if (pt_cmpR op_eq (pe_ix (kix_tup K) (pv 0) pe_int (fun _ _ => rfl)) pe_str (nomark _))
      (pss_one (ps_ret (pe_tupA (pa_cons pe_str (pa_cons (pe_ix (kix_tup K) (pv 0) pe_int (fun _ _ => rfl)) (pa_cons (pe_callTy (kcall_tuple_of K) (by rfl) T.tuple (by decide +kernel) (pa_cons (pe_lc (own := [("option", 4), ("below", 5)]) (g := gTup K 2 (gCons (gName 4) (gCons (gName 5) gNil))) (tt := tYes) (by rfl) sc_lrep.nd (pi_zipM K (by rfl) T.zip (pa_cons (pe_ix (kix_tup K) (pv 0) pe_int (fun _ _ => rfl)) (pa_cons (pv 3) pa_nil))) (blkOk_by (own := [("option", 4), ("below", 5)]) (N := ["part", "path", "other", "inner", "option", "below"]) (sc := defScope s_lrep) (by decide +kernel)) (fun _ _ _ _ _ => (kpg_tup K (n := 2) rfl (pgs_cons (pg_name (i := 4) sc_lrep.nd rfl (Or.inl rfl)) (pgs_cons (pg_name (i := 5) sc_lrep.nd rfl (Or.inl rfl)) pgs_nil)))) (fun _ _ _ _ _ => pts_nil) (fun _ _ _ _ _ => (pe_tupA (pa_cons (pe_ix (kix_tup K) (pv 4) pe_int (fun _ _ => rfl)) (pa_cons (pv 5) pa_nil))))) pa_nil)) pa_nil))))))
      pss_nil)
    (pss_one (ps_ret (pe_op (kop_catA K) (pe_slice (ksl_tupA K) (pv 0) po_none (po_some (pe_un un_neg pe_int))) (pe_tupA (pa_cons (pe_ix (kix_list K) (pv 3) pe_int (fun _ _ => rfl)) pa_nil)))))))))), ?_⟩
  simp only [and_assoc, tSeq, tAsg, tIfS, tTest, tOp, tVar, tC, rI0, rI, tCB, tCons, tNil, gName, tNext, tRet, tRetN, tLst, tTup, tDrop, tUn, rU, tB, tAnd, tOr, tNot, tAndV, tOrV, tNotV, tIf, tCall, tSl, tBM, tBM0, rAppend, rExtend, StX.tStar, gTup, wipe, tPart, tNoPart, L2.cxOf_K, L2.NewA, L2.iZipM, L2.tTupA, L2.tLstA, L2.rCatL, L2.rRepL, L2.rCatTA, L2.rSlLA, L2.rSlTA, L2.tFor_eq, L2.tLc_eq, iList, iTup, iRng1, iRng2, iRng3, iEnum, iZip, rSetL, tYes, rIn, L2.tMatch, L2.cIf, L2.cAny, L2.cNil, rIxL, rIxT, rEq, rNe, gSub, gNil, gCons, tPar, List.append_nil, L2.start, List.map_cons, List.map_nil, List.cons_append, List.nil_append, List.length_cons, List.length_nil, List.replicate, V.int.injEq, V.ref.injEq, V.bl.injEq, V.str.injEq, List.cons.injEq, Option.some.injEq, exists_eq_left, exists_eq_left', and_true, true_and, List.getElem?_cons_zero, List.getElem?_cons_succ, List.set_cons_zero, List.set_cons_succ, exists_and_left, exists_and_right, exists_eq', exists_eq, exists_eq_right, exists_eq_right', Nat.reduceAdd, Nat.reduceSub, decide_eq_true_eq, Bool.not_eq_true', decide_eq_false_iff_not, reduceCtorEq, false_and, and_false, or_false, false_or, exists_false, exists_const, Bool.false_eq_true, if_true, if_false]
  refine ⟨Nat.zero_le _, fun e1 H1 he1 g1 hx1 => ?_⟩
  have hTD : Dp K H1 (.ref t) (.tuple (p.map .int)) := .tup (SqT.same g1 hT) DpAll.int
  refine ⟨_, .tuple [], hTD, .ofT hx1 .nil, (Laid.tuple (m := 0) fun z hz => by obtain ⟨i, _, rfl⟩ := List.mem_map.mp hz; exact Laid.int).shaped (by decide), rfl, _, rfl, ?_⟩
  cases p with
  | nil => exact iteP rfl (q _ _ g1 (Dp.same g1 hU))
  | cons i r =>
    refine iteN (by simp [PyData.eqv, PyData.eqvAll]) ?_
    obtain ⟨h0, h1, h2⟩ := hV
    refine ⟨v, d, n, rfl, hP, Dp.same g1 hD, fun c ys H2 hc g2 hx2 hA2 => ?_⟩
    obtain ⟨y, hy, hDy⟩ := hA2.getD (List.getElem?_eq_getElem h1)
    have ed : (kids d).getD i.toNat .none = (kids d)[i.toNat] := by rw [List.getD_eq_getElem?_getD, List.getElem?_eq_getElem h1]; rfl
    have g12 := g1.trans g2
    refine ⟨_, SqT.same g12 hT, _, at0, c, rfl, _, _, rfl, SqL.of hx2, _, at_of (j := i.toNat) (by omega) hy, _, SqT.same g12 hT, fun t3 H3 g3 hT3 => ?_⟩
    rw [cut_from1] at hT3
    have g13 := g12.trans g3
    refine ⟨y, u, (kids d).getD i.toNat .none, o, n - 1, k, t3, r, rfl, ?_, hO, hT3, by simp at hpl; omega, by omega, h2, by rw [ed]; exact Dp.same g3 hDy, Dp.same g13 hU, fun z H4 g4 hz => ?_⟩
    · cases n with
      | zero => cases hP
      | succ n => exact hP.kids.1 _ (kid_mem h1)
    have g14 := g13.trans g4
    have hc4 : H4 c = some (.lst ys) := g4 _ _ (g3 _ _ hx2)
    have hnc : H c = none := g1.free hc
    have hyl : ys.length = (kids d).length := hA2.len
    have hix : ixN ys.length i = some i.toNat := by
      unfold ixN
      rw [if_pos h0, if_pos (by omega)]
    have hIP : ∃ n', n = n' + 1 := by
      cases n with
      | zero => cases hP
      | succ n => exact ⟨n, rfl⟩
    obtain ⟨n', rfl⟩ := hIP
    have hrp : IsP (n' + k) (repl ((kids d).getD i.toNat .none) r o) := repl_isP hO (hP.kids.1 _ (kid_mem h1)) h2
    have hnl : noLs ((kids d).set i.toNat (repl ((kids d).getD i.toNat .none) r o)) = true := noLs_of fun e he => by
      rcases List.mem_or_eq_of_mem_set he with he | rfl
      · exact (hP.kids.1 e he).noL
      · exact hrp.noL
    have ts : TSame H4 (upd H4 c (.lst (ys.set i.toNat z))) := ts_lst (TSame.refl _) hc4 _
    have hA5 : DpAll K (upd H4 c (.lst (ys.set i.toNat z))) (ys.set i.toNat z) ((kids d).set i.toNat (repl ((kids d).getD i.toNat .none) r o)) := DpAll.ts ts hnl (DpAll.set _ (DpAll.same (g3.trans g4) hA2) hz)
    have hD5 : Dp K (upd H4 c (.lst (ys.set i.toNat z))) v d := Dp.ts ts hP.noL (Dp.same g14 hD)
    have gS : Same H (upd H4 c (.lst (ys.set i.toNat z))) := same_mut g14 hnc _
    have hx5 : (upd H4 c (.lst (ys.set i.toNat z))) c = some (.lst (ys.set i.toNat z)) := upd_same
    refine ⟨_, SqT.same g14 hT, _, at0, c, rfl, _, _, rfl, hc4, _, hix, ?_⟩
    generalize upd H4 c (.lst (ys.set i.toNat z)) = H5 at hA5 hD5 gS hx5 ts ⊢
    have q2 : ∀ z2 H6, Same H5 H6 → Dp K H6 z2 (withKids d ((kids d).set i.toNat (repl ((kids d).getD i.toNat .none) r o))) → Q z2 H6 := fun z2 H6 g6 hz2 => q _ _ (gS.trans g6) hz2
    have hlen : ((kids d).set i.toNat (repl ((kids d).getD i.toNat .none) r o)).length = (kids d).length := List.length_set
    have hL : SqL K H5 c (ys.set i.toNat z) := SqL.of hx5
    generalize (kids d).set i.toNat (repl ((kids d).getD i.toNat .none) r o) = ds at q2 hlen hA5 hnl
    generalize ys.set i.toNat z = ks at hA5 hL
    clear q hx5 ts
    cases hP with
    | leaf hk hf => rw [kids_leaf hk] at h1; exact absurd h1 (Nat.not_lt_zero _)
    | row hp hl =>
      obtain ⟨a, xs, rfl, hS, hA'⟩ := hD5.tupI
      obtain ⟨v0, r', rfl, h00, hr'⟩ := hA'.consI
      cases h00.strI
      refine ⟨a, rfl, _, hS, _, at0, rfl, iteP rfl ⟨c, rfl, _, .inl hL, fun t' H6 g6 hT6 => ⟨szl (by decide), fun p H7 hp g7 hx7 => q2 _ _ (g6.trans g7) ?_⟩⟩⟩
      rw [wk_row]
      exact .ofT hx7 (.cons (.str _) (.cons (.tup (SqT.same g7 hT6) (DpAll.same (g6.trans g7) hA5)) .nil))
    | choice hm hp h1' hl =>
      rename_i m' os
      obtain ⟨a, xs, rfl, hS, hA'⟩ := hD5.tupI
      obtain ⟨v0, r', rfl, h00, hr'⟩ := hA'.consI
      cases h00.strI
      obtain ⟨v1, r', rfl, hv1, hr'⟩ := hr'.consI
      obtain ⟨v2, r', rfl, hv2, hr'⟩ := hr'.consI
      cases hr'.nilI
      obtain ⟨b, ys', rfl, hS2, hA2'⟩ := hv2.tupI
      rw [kids_choice, List.length_map] at hlen
      have hyl' : ys'.length = os.length := by rw [hA2'.len, List.length_map]
      have hkl : ks.length = os.length := by rw [hA5.len, hlen]
      refine ⟨a, rfl, _, hS, _, at0, rfl, iteN (strne row_ne_choice) ⟨a, rfl, _, hS, _, at0, rfl, iteP rfl ⟨a, rfl, _, hS, _, at1, a, rfl, _, hS, _, at2, b, rfl, c, rfl, ⟨_, hS2⟩, ⟨_, hL⟩, ?_⟩⟩⟩
      refine lcB_data (K := K) (walk_zipM (us := ys') (ws := ks) (n := os.length) hyl' hkl) (fun _ => true) (optD os ds) (fun i hi => ?_) (fun H' g => ⟨SqT.same g hS2, g.seq hL⟩) (by omega) (fun i x H1 H' R R' hi g1 y kR _ => ?_) (fun D' zs H' hD' g hz hA3 => ?_)
      · simp only [optD, noL, noLs, Bool.true_and, Bool.and_true]
        refine noLs_mem hnl _ ?_
        rw [List.getD_eq_getElem?_getD, List.getElem?_eq_getElem (by omega)]
        exact List.getElem_mem _
      · obtain ⟨T', x', y', rfl, hT', rfl, e1, e2⟩ := y
        obtain ⟨o, ho, hDo⟩ := hA2'.get e1
        rw [List.getElem?_map, List.getElem?_eq_getElem hi] at ho
        cases ho
        obtain ⟨b', zs, rfl, hSo, hAo⟩ := hDo.tupI
        obtain ⟨w0, r, rfl, hw0, hr'⟩ := hAo.consI
        cases hw0.intI
        obtain ⟨k', hk', hDk⟩ := hA5.get e2
        have gT := same_new hT' (.tup [.ref b', y'])
        simp only [and_assoc, tSeq, tAsg, tIfS, tTest, tOp, tVar, tC, rI0, rI, tCB, tCons, tNil, gName, tNext, tRet, tRetN, tLst, tTup, tDrop, tUn, rU, tB, tAnd, tOr, tNot, tAndV, tOrV, tNotV, tIf, tCall, tSl, tBM, tBM0, rAppend, rExtend, StX.tStar, gTup, wipe, tPart, tNoPart, L2.cxOf_K, L2.NewA, L2.iZipM, L2.tTupA, L2.tLstA, L2.rCatL, L2.rRepL, L2.rCatTA, L2.rSlLA, L2.rSlTA, L2.tFor_eq, L2.tLc_eq, iList, iTup, iRng1, iRng2, iRng3, iEnum, iZip, rSetL, tYes, rIn, L2.tMatch, L2.cIf, L2.cAny, L2.cNil, rIxL, rIxT, rEq, rNe, gSub, gNil, gCons, tPar, List.append_nil, L2.start, List.map_cons, List.map_nil, List.cons_append, List.nil_append, List.length_cons, List.length_nil, List.replicate, V.int.injEq, V.ref.injEq, V.bl.injEq, V.str.injEq, List.cons.injEq, Option.some.injEq, exists_eq_left, exists_eq_left', and_true, true_and, List.getElem?_cons_zero, List.getElem?_cons_succ, List.set_cons_zero, List.set_cons_succ, exists_and_left, exists_and_right, exists_eq', exists_eq, exists_eq_right, exists_eq_right', Nat.reduceAdd, Nat.reduceSub, decide_eq_true_eq, Bool.not_eq_true', decide_eq_false_iff_not, reduceCtorEq, false_and, and_false, or_false, false_or, exists_false, exists_const, Bool.false_eq_true, if_true, if_false]
        refine ⟨_, SqT.of upd_same, rfl, _, _, rfl, _, _, rfl, rfl, b', rfl, _, SqT.same (g1.trans gT) hSo, _, at0, szl (by decide), fun p H3 hp g3 hx3 => kR rfl _ _ (gT.trans g3) ?_⟩
        unfold optD
        rw [List.getD_eq_getElem?_getD, List.getElem?_eq_getElem hi, List.getD_eq_getElem?_getD, hk']
        exact .ofT hx3 (.cons (.int _) (.cons (Dp.same ((g1.trans gT).trans g3) hDk) .nil))
      · refine ⟨D', rfl, _, .inl (SqL.of hz), fun t H2 g2 hT2 => ⟨szl (by decide), fun p H3 hp g3 hx3 => q2 _ _ ((g.trans g2).trans g3) ?_⟩⟩
        rw [wk_choice (by omega)]
        rw [range_all, ← hlen] at hA3
        exact .ofT hx3 (.cons (.str _) (.cons (Dp.same ((g.trans g2).trans g3) hv1) (.cons (.tup (SqT.same g3 hT2) (DpAll.same (g2.trans g3) hA3)) .nil)))
    | one hk hf ht hd =>
      obtain ⟨a, xs, rfl, hS, hA'⟩ := hD5.tupI
      obtain ⟨v0, r', rfl, h00, hr'⟩ := hA'.consI
      cases h00.strI
      obtain ⟨h1', h2', h3'⟩ := one_ne hk
      obtain ⟨us, ws, rfl, hu, hw⟩ := hr'.appI
      obtain ⟨v1, r', rfl, h4, hr'⟩ := hw.consI
      cases hr'.nilI
      rw [kids_one hk] at hlen
      obtain ⟨d1, ds', rfl⟩ : ∃ d1 ds', ds = d1 :: ds' := by
        cases ds with
        | nil => simp at hlen
        | cons d1 ds' => exact ⟨_, _, rfl⟩
      obtain ⟨k1, ks', rfl, hk1, _⟩ := hA5.consI
      have hsz : us.length ≤ 1000 := by
        have := hu.len
        have := hf.2
        omega
      refine ⟨a, rfl, _, hS, _, at0, rfl, iteN (strne h1') ⟨a, rfl, _, hS, _, at0, rfl, iteN (strne h2') ⟨a, rfl, _, hS, fun p H6 g6 hT6 => ?_⟩⟩⟩
      rw [← List.cons_append, cut_last] at hT6
      refine ⟨c, rfl, _, g6.seq hL, _, at0, szl (by decide), fun p7 H7 hp7 g7 hx7 => ⟨_, SqT.same g7 hT6, _, SqT.of hx7, szl (by simp; omega), fun p8 H8 g8 hT8 => q2 _ _ ((g6.trans g7).trans g8) ?_⟩⟩
      rw [wk_one hk]
      exact .tup hT8 (.cons (.str _) ((DpAll.same ((g6.trans g7).trans g8) hu).append (.cons (Dp.same ((g6.trans g7).trans g8) hk1) .nil)))
end

end W

set_option Elab.async false
set_option linter.all false
set_option maxRecDepth 100000
set_option maxHeartbeats 4000000
namespace W
open PySem L2
open C8 (Cal pe_c pss_cut tCut)
/-! ### parts that are drawn -/
def RoomAt (H : Hp) (r : Addr) : Prop := ∃ n : Int, H r = some (.lst [.int n])
def vD : V → PyData
  | .bl b => .bool b
  | .int i => .int i
  | .str x => .str x
  | _ => .none
def flatOk : V → Bool
  | .non => true
  | .bl _ => true
  | .int _ => true
  | .str x => PyData.strOk x
  | _ => false
theorem vD_dp {K : PySem.W.Frag} {H : Hp} {v : V} (h : flatOk v = true) : Dp K H v (vD v) := by
  cases v <;> first | exact .non | exact .bl _ | exact .int _ | exact .str _ | (simp [flatOk] at h)
theorem vD_flat {v : V} (h : flatOk v = true) : flatD (vD v) = true := by
  cases v <;> first | rfl | (simpa [flatOk, flatD, vD] using h) | (simp [flatOk] at h)
theorem vDs_dp {K : PySem.W.Frag} {H : Hp} : ∀ {vs : List V}, vs.all flatOk = true → DpAll K H vs (vs.map vD)
  | [], _ => .nil
  | v :: vs, h => by
    rw [List.all_cons, Bool.and_eq_true] at h
    exact .cons (vD_dp h.1) (vDs_dp h.2)
theorem vDs_flat : ∀ {vs : List V}, vs.all flatOk = true → (vs.map vD).all flatD = true
  | [], _ => rfl
  | v :: vs, h => by
    rw [List.all_cons, Bool.and_eq_true] at h
    rw [List.map_cons, List.all_cons, vD_flat h.1, vDs_flat h.2]
    rfl
theorem fcons {v : V} {us : List V} (h : flatOk v = true) (t : us.all flatOk = true) : (v :: us).all flatOk = true := by rw [List.all_cons, h, t]; rfl
theorem fstr {x : Str} (h : PyData.strOk x = true) : flatOk (.str x) = true := h
theorem fnil : ([] : List V).all flatOk = true := rfl
theorem at_in {xs : List V} {i : Int} (h0 : 0 ≤ i) (h1 : i < (xs.length : Int)) : ∃ v, atI xs i = some v ∧ v ∈ xs := by
  have h2 : i.toNat < xs.length := by omega
  exact ⟨xs[i.toNat], at_of (j := i.toNat) (by omega) (List.getElem?_eq_getElem h2), List.getElem_mem h2⟩
theorem at_flat {xs : List V} {i : Int} (h0 : 0 ≤ i) (h1 : i < (xs.length : Int)) (hf : xs.all flatOk = true) : ∃ v, atI xs i = some v ∧ flatOk v = true := by
  obtain ⟨v, h, hm⟩ := at_in h0 h1
  exact ⟨v, h, List.all_eq_true.mp hf v hm⟩
theorem at_str {xs : List Str} {i : Int} (h0 : 0 ≤ i) (h1 : i < (xs.length : Int)) : ∃ z, atI (xs.map V.str) i = some (.str z) ∧ z ∈ xs := by
  obtain ⟨v, h, hm⟩ := at_in (xs := xs.map V.str) h0 (by simpa using h1)
  obtain ⟨z, hz, rfl⟩ := List.mem_map.mp hm
  exact ⟨z, h, hz⟩
/-- at most so many parts -/
def Bm : Nat → Nat
  | 0 => 0
  | n + 1 => 1 + 6 * Bm n
theorem cnt_le {n : Nat} {d : PyData} (hk : (kids d).length ≤ 6) (h : ∀ c ∈ kids d, cnt n c ≤ Bm n) : cnt (n + 1) d ≤ Bm (n + 1) := by
  have key : ∀ j, j ≤ (kids d).length → (subTo n d j).length ≤ 1 + j * Bm n := by
    intro j
    induction j with
    | zero => intro _; simp [subTo]
    | succ j ih =>
      intro hj
      have h1 := ih (by omega)
      have h2 : (subAt n d j).length ≤ Bm n := by
        have := h _ (kid_mem (d := d) (i := j) (by omega))
        simpa [subAt, cnt] using this
      rw [subTo_succ, List.length_append, Nat.succ_mul]
      omega
  have h3 := key _ (Nat.le_refl _)
  rw [subTo_all] at h3
  have h4 : (kids d).length * Bm n ≤ 6 * Bm n := Nat.mul_le_mul_right _ hk
  show (sub (n + 1) d).length ≤ 1 + 6 * Bm n
  omega
/-- a drawn part -/
structure Drw (n : Nat) (d : PyData) : Prop where
  p : IsP n d
  c : cnt n d ≤ Bm n
theorem Drw.leaf {n : Nat} {k : Str} {fs : List PyData} (hk : k ∈ leafKinds) (hf : fs.all flatD = true) (hl : fs.length ≤ 8) : Drw (n + 1) (.tuple (.str k :: fs)) :=
  ⟨.leaf hk ⟨hf, hl⟩, cnt_le (by rw [kids_leaf hk]; exact Nat.zero_le _) (by rw [kids_leaf hk]; simp)⟩
theorem Drw.one {n : Nat} {k : Str} {fs : List PyData} {d : PyData} (hk : k ∈ oneKinds) (hf : fs.all flatD = true) (hl : fs.length ≤ 8) (ht : k = "times" → ∃ m : Int, fs = [.int m] ∧ 0 ≤ m ∧ m ≤ 6) (h : Drw n d) : Drw (n + 1) (.tuple (.str k :: (fs ++ [d]))) :=
  ⟨.one hk ⟨hf, hl⟩ ht h.p, cnt_le (by rw [kids_one hk]; simp) (by rw [kids_one hk]; simpa using h.c)⟩
theorem Drw.row {n : Nat} {ps : List PyData} (h : ∀ d ∈ ps, Drw n d) (hl : ps.length ≤ 6) : Drw (n + 1) (.tuple [.str "row", .tuple ps]) :=
  ⟨.row (fun d hd => (h d hd).p) (by omega), cnt_le (by rw [kids_row]; exact hl) (by rw [kids_row]; exact fun c hc => (h c hc).c)⟩
theorem Drw.choice {n : Nat} {m : Str} {os : List (Int × PyData)} (hm : PyData.strOk m = true) (h : ∀ o ∈ os, Drw n o.2) (h1 : 0 < os.length) (hl : os.length ≤ 6) : Drw (n + 1) (.tuple [.str "choice", .str m, .tuple (os.map fun o => .tuple [.int o.1, o.2])]) :=
  ⟨.choice hm (fun o ho => (h o ho).p) h1 (by omega), cnt_le (by rw [kids_choice]; simpa using hl) (by rw [kids_choice]; intro c hc; obtain ⟨o, ho, rfl⟩ := List.mem_map.mp hc; exact (h o ho).c)⟩
/-- behind a draw of a part: pool and room have turned, all else stays -/
structure Beh (a r : Addr) (H H' : Hp) : Prop where
  k : Keep [a, r] H H'
  p : PoolAt H' a
  r : RoomAt H' r
theorem Beh.ts {a r : Addr} {H H' : Hp} (b : Beh a r H H') (hp : PoolAt H a) (hr : RoomAt H r) : TSame H H' := b.k.ts fun c hc => by
  simp only [List.mem_cons, List.not_mem_nil, or_false] at hc
  rcases hc with rfl | rfl
  · obtain ⟨x, y, e, _⟩ := hp; exact ⟨_, e⟩
  · obtain ⟨n, e⟩ := hr; exact ⟨_, e⟩
theorem Beh.refl {a r : Addr} {H : Hp} (hp : PoolAt H a) (hr : RoomAt H r) : Beh a r H H := ⟨Keep.refl _ _, hp, hr⟩
theorem Beh.trans {a r : Addr} {H H1 H2 : Hp} (b : Beh a r H H1) (c : Beh a r H1 H2) : Beh a r H H2 := ⟨b.k.trans c.k, c.p, c.r⟩
theorem Beh.draw {a r : Addr} {H H' : Hp} (hr : RoomAt H r) (har : a ≠ r) (k : Keep [a] H H') (p : PoolAt H' a) : Beh a r H H' := by
  refine ⟨k.mono (by simp), p, ?_⟩
  obtain ⟨n, e⟩ := hr
  exact ⟨n, k _ _ (by simp [Ne.symm har]) e⟩
theorem Beh.same {a r : Addr} {H H' : Hp} (hp : PoolAt H a) (hr : RoomAt H r) (g : Same H H') : Beh a r H H' := by
  refine ⟨Same.keep g, ?_, ?_⟩
  · obtain ⟨x, y, e, h⟩ := hp; exact ⟨x, y, g _ _ e, h⟩
  · obtain ⟨n, e⟩ := hr; exact ⟨n, g _ _ e⟩
theorem PoolAt.same {a : Addr} {H H' : Hp} (h : PoolAt H a) (g : Same H H') : PoolAt H' a := by
  obtain ⟨x, y, e, ho⟩ := h; exact ⟨x, y, g _ _ e, ho⟩
theorem ne_pool {a l : Addr} {H : Hp} (h : PoolAt H a) (hl : H l = none) : l ≠ a := fun z => by
  subst z; obtain ⟨x, y, e, _⟩ := h; rw [e] at hl; cases hl
theorem ne_room {r l : Addr} {H : Hp} (h : RoomAt H r) (hl : H l = none) : l ≠ r := fun z => by
  subst z; obtain ⟨n, e⟩ := h; rw [e] at hl; cases hl
theorem Beh.lst {a r l : Addr} {H H' : Hp} {o : HO} (b : Beh a r H H') (h1 : l ≠ a) (h2 : l ≠ r) (h : H l = some o) : H' l = some o := b.k _ _ (by simp [h1, h2]) h
def spLeaf (K : PySem.W.Frag) : Sp := fun vs H Q _ => ∃ (a : Addr) (how : Str) (told : Bool), vs = [.ref a, .str how, .bl told] ∧ PyData.strOk how = true ∧ PoolAt H a ∧
  ∀ (v : V) (d : PyData) (H' : Hp), (∀ n, Drw (n + 1) d) → Keep [a] H H' → PoolAt H' a → Dp K H' v d → Q v H'
def spOpts (K : PySem.W.Frag) (m : Nat) : Sp := fun vs H Q _ => ∃ (a r : Addr) (depth limits : Int) (told : Bool), vs = [.ref a, .ref r, .int depth, .int limits, .bl told] ∧ PoolAt H a ∧ RoomAt H r ∧ a ≠ r ∧ 0 ≤ depth ∧ (7 ≤ depth + m ∧ depth ≤ 6) ∧
  ∀ (v : V) (os : List (Int × PyData)) (H' : Hp), (∀ o ∈ os, Drw m o.2) → 0 < os.length → os.length ≤ 6 → Beh a r H H' → Dp K H' v (.tuple (os.map fun o => .tuple [.int o.1, o.2])) → Q v H'
def spPart (K : PySem.W.Frag) (m : Nat) : Sp := fun vs H Q _ => ∃ (a r : Addr) (depth limits : Int) (told : Bool), vs = [.ref a, .ref r, .int depth, .int limits, .bl told] ∧ PoolAt H a ∧ RoomAt H r ∧ a ≠ r ∧ 0 ≤ depth ∧ (7 ≤ depth + m ∧ depth ≤ 6) ∧
  ∀ (v : V) (d : PyData) (H' : Hp), Drw m d → Beh a r H H' → Dp K H' v d → Q v H'
def spCtd (K : PySem.W.Frag) (m : Nat) : Sp := fun vs H Q _ => ∃ (a r : Addr) (how : Str) (depth limits : Int) (told : Bool), vs = [.ref a, .str how, .ref r, .int depth, .int limits, .bl told] ∧ PyData.strOk how = true ∧ PoolAt H a ∧ RoomAt H r ∧ a ≠ r ∧ 0 ≤ depth ∧ (7 ≤ depth + m ∧ depth ≤ 6) ∧
  ∀ (v : V) (d : PyData) (H' : Hp), Drw (m + 1) d → Beh a r H H' → Dp K H' v d → Q v H'
def spWth (K : PySem.W.Frag) (m : Nat) : Sp := fun vs H Q _ => ∃ (a r : Addr) (how : Str) (depth limits : Int), vs = [.ref a, .str how, .ref r, .int depth, .int limits] ∧ PyData.strOk how = true ∧ PoolAt H a ∧ RoomAt H r ∧ a ≠ r ∧ 0 ≤ depth ∧ (7 ≤ depth + m ∧ depth ≤ 6) ∧
  ∀ (v : V) (d : PyData) (H' : Hp), Drw (m + 1) d → Beh a r H H' → Dp K H' v d → Q v H'

abbrev s_leaf : Stmt := (topS 12)
theorem sc_leaf : FnScope ["pool", "how", "told", "kind", "low"] ["pool", "how", "told"] (defScope s_leaf) := ⟨rfl, rfl, rfl, by decide +kernel, rfl, by decide +kernel, by decide +kernel⟩
abbrev s_options : Stmt := (topS 13)
theorem sc_options : FnScope ["pool", "room", "depth", "limits", "told", "options", "number"] ["pool", "room", "depth", "limits", "told"] (defScope s_options) := ⟨rfl, rfl, rfl, by decide +kernel, rfl, by decide +kernel, by decide +kernel⟩
abbrev s_counted : Stmt := (topS 14)
theorem sc_counted : FnScope ["pool", "how", "room", "depth", "limits", "told", "most", "ahead", "inner"] ["pool", "how", "room", "depth", "limits", "told"] (defScope s_counted) := ⟨rfl, rfl, rfl, by decide +kernel, rfl, by decide +kernel, by decide +kernel⟩
abbrev s_within : Stmt := (topS 15)
theorem sc_within : FnScope ["pool", "how", "room", "depth", "limits", "most", "limit", "rest"] ["pool", "how", "room", "depth", "limits"] (defScope s_within) := ⟨rfl, rfl, rfl, by decide +kernel, rfl, by decide +kernel, by decide +kernel⟩
abbrev s_part : Stmt := (topS 16)
theorem sc_part : FnScope ["pool", "room", "depth", "limits", "told", "how", "kind", "parts", "turn"] ["pool", "room", "depth", "limits", "told"] (defScope s_part) := ⟨rfl, rfl, rfl, by decide +kernel, rfl, by decide +kernel, by decide +kernel⟩
section
variable {P : Program} {w : World} {K : PySem.W.Frag} {mg : Str → Option Value} {base : Heap} {f : Addr} {fd : FuncData}
theorem ok_leaf (D : Dfn K mg "_law_leaf" s_leaf ["pool", "how", "told"] f fd) (T : Bn mg) (cD : Cal P w K mg base 1 "_law_draw" spDraw []) : Cal P w K mg base 2 "_law_leaf" (spLeaf K) [] := by
  refine D.cal (D.F.ok sc_leaf (fun vs H Q E h => ?_) (fun cdv A outer s H vs Q E hr h => ?_))
  · obtain ⟨a, how, told, rfl, _⟩ := h
    rfl
  obtain ⟨a, how, told, rfl, hh, hp, q⟩ := h
  refine ⟨_, (pss_cons (ps_set (i := 3) sc_leaf.nd rfl (Or.inl rfl) (pe_c cD hr (by omega) rfl (pa_cons (pv 0) (pa_cons pe_int pa_nil))))
    (pss_cons (ps_if (PW.pt (pw_and (pt_cmpR op_eq (pv 3) pe_int (nomark _)) (pw_and1 (pt_not (pt_val (pv 2))))))
      (pss_one (ps_ret (pe_tupA (pa_cons pe_str (pa_cons (pe_op op_add pe_int (pe_c cD hr (by omega) rfl (pa_cons (pv 0) (pa_cons pe_int pa_nil)))) pa_nil)))))
      pss_nil)
    (pss_cons (ps_if (pt_cmpR op_eq (pv 3) pe_int (nomark _))
      (pss_one (ps_ret (pe_tupA (pa_cons pe_str (pa_cons (pe_ix (kix_list K) (pe_lstA (pa_cons pe_int (pa_cons pe_int (pa_cons pe_int pa_nil)))) (pe_c cD hr (by omega) rfl (pa_cons (pv 0) (pa_cons pe_int pa_nil))) (fun _ _ => rfl)) (pa_cons (pv 1) pa_nil))))))
      pss_nil)
    (pss_cons (ps_set (i := 4) sc_leaf.nd rfl (Or.inl rfl) (pe_ix (kix_list K) (pe_lstA (pa_cons pe_int (pa_cons pe_int (pa_cons pe_int pa_nil)))) (pe_c cD hr (by omega) rfl (pa_cons (pv 0) (pa_cons pe_int pa_nil))) (fun _ _ => rfl)))
    (pss_one (ps_ret (pe_tupA (pa_cons pe_str (pa_cons (pv 4) (pa_cons (pe_ix (kix_list K) (pe_lstA (pa_cons pe_non (pa_cons pe_non (pa_cons pe_int pa_nil)))) (pe_c cD hr (by omega) rfl (pa_cons (pv 0) (pa_cons pe_int pa_nil))) (fun _ _ => rfl)) (pa_cons (pv 1) pa_nil))))))))))), ?_⟩
  simp only [and_assoc, tSeq, tAsg, tIfS, tTest, tOp, tVar, tC, rI0, rI, tCB, tCons, tNil, gName, tNext, tRet, tRetN, tLst, tTup, tDrop, tUn, rU, tB, tAnd, tOr, tNot, tAndV, tOrV, tNotV, tIf, tCall, tSl, tBM, tBM0, rAppend, rExtend, StX.tStar, gTup, wipe, tPart, tNoPart, L2.cxOf_K, L2.NewA, L2.iZipM, L2.tTupA, L2.tLstA, L2.rCatL, L2.rRepL, L2.rCatTA, L2.rSlLA, L2.rSlTA, L2.tFor_eq, L2.tLc_eq, iList, iTup, iRng1, iRng2, iRng3, iEnum, iZip, rSetL, tYes, rIn, L2.tMatch, L2.cIf, L2.cAny, L2.cNil, rIxL, rIxT, rEq, rNe, gSub, gNil, gCons, tPar, List.append_nil, L2.start, List.map_cons, List.map_nil, List.cons_append, List.nil_append, List.length_cons, List.length_nil, List.replicate, V.int.injEq, V.ref.injEq, V.bl.injEq, V.str.injEq, List.cons.injEq, Option.some.injEq, exists_eq_left, exists_eq_left', and_true, true_and, List.getElem?_cons_zero, List.getElem?_cons_succ, List.set_cons_zero, List.set_cons_succ, exists_and_left, exists_and_right, exists_eq', exists_eq, exists_eq_right, exists_eq_right', Nat.reduceAdd, Nat.reduceSub, decide_eq_true_eq, Bool.not_eq_true', decide_eq_false_iff_not, reduceCtorEq, false_and, and_false, or_false, false_or, exists_false, exists_const, Bool.false_eq_true, if_true, if_false]
  refine ⟨a, 4, rfl, hp, by decide, by decide, fun kind H1 k0 k1 e1 p1 => ⟨rfl, ?_⟩⟩
  have fin : ∀ (H2 H3 : Hp) (p : Addr) (k : Str) (us : List V), Keep [a] H H2 → PoolAt H2 a → H2 p = none → Same H2 H3 → H3 p = some (.tup (.str k :: us)) → k ∈ leafKinds → us.all flatOk = true → us.length ≤ 8 → Q (.ref p) H3 := by
    intro H2 H3 p k us e2 p2 hn g3 hx hk hf hl
    obtain ⟨x, y, e, ho⟩ := p2
    exact q _ (.tuple (.str k :: us.map vD)) H3 (fun n => Drw.leaf hk (vDs_flat hf) (by simpa using hl)) (e2.trans (Same.keep g3)) ⟨x, y, g3 _ _ e, ho⟩ (.ofT hx (.cons (.str _) (vDs_dp hf)))
  have pool_same : ∀ {H2 H3 : Hp}, PoolAt H2 a → Same H2 H3 → PoolAt H3 a := fun ⟨x, y, e, ho⟩ g => ⟨x, y, g _ _ e, ho⟩
  refine ite2 (fun _ => ite2 (fun _ => ?_) (fun _ => ⟨rfl, ?_⟩)) (fun _ => ⟨rfl, ?_⟩)
  · exact ⟨a, 3, rfl, p1, by decide, by decide, fun x H2 x0 x1 e2 p2 => ⟨x, rfl, szl (by decide), fun p H3 hn g3 hx => fin H2 H3 p _ _ (e1.trans e2) p2 hn g3 hx (by decide +kernel) rfl (by simp)⟩⟩
  all_goals
    refine ite2 (fun _ => ?_) (fun _ => ?_)
    · refine ⟨szl (by decide), fun l H2 hl g2 hx2 => ⟨a, 3, rfl, pool_same p1 g2, by decide, by decide, fun x H3 x0 x1 e3 p3 => ?_⟩⟩
      have hla : l ≠ a := fun z => by subst z; obtain ⟨x, y, e, _⟩ := p1; rw [e] at hl; cases hl
      obtain ⟨v, hv, hf⟩ := at_flat (xs := [V.int 2, V.int 2, V.int 3]) x0 x1 rfl
      exact ⟨_, x, rfl, SqL.of (e3 _ _ (by simp [hla]) hx2), v, hv, szl (by decide), fun p H4 hn g4 hx => fin H3 H4 p _ _ ((e1.trans (Same.keep g2)).trans e3) p3 hn g4 hx (by decide +kernel) (fcons hf (fcons (fstr hh) fnil)) (by simp)⟩
    · refine ⟨szl (by decide), fun l H2 hl g2 hx2 => ⟨a, 3, rfl, pool_same p1 g2, by decide, by decide, fun x H3 x0 x1 e3 p3 => ?_⟩⟩
      have hla : l ≠ a := fun z => by subst z; obtain ⟨x, y, e, _⟩ := p1; rw [e] at hl; cases hl
      obtain ⟨v, hv, hf⟩ := at_flat (xs := [V.int 0, V.int 0, V.int 1]) x0 x1 rfl
      refine ⟨_, x, rfl, SqL.of (e3 _ _ (by simp [hla]) hx2), v, hv, szl (by decide), fun l4 H4 hl4 g4 hx4 => ⟨a, 3, rfl, pool_same p3 g4, by decide, by decide, fun y H5 y0 y1 e5 p5 => ?_⟩⟩
      have hla4 : l4 ≠ a := fun z => by subst z; obtain ⟨x, y, e, _⟩ := p3; rw [e] at hl4; cases hl4
      obtain ⟨v', hv', hf'⟩ := at_flat (xs := [V.non, V.non, V.int 2]) y0 y1 rfl
      exact ⟨_, y, rfl, SqL.of (e5 _ _ (by simp [hla4]) hx4), v', hv', szl (by decide), fun p H6 hn g6 hx => fin H5 H6 p _ _ ((((e1.trans (Same.keep g2)).trans e3).trans (Same.keep g4)).trans e5) p5 hn g6 hx (by decide +kernel) (fcons hf (fcons hf' (fcons (fstr hh) fnil))) (by simp)⟩
theorem ok_counted {m : Nat} (D : Dfn K mg "_law_counted" s_counted ["pool", "how", "room", "depth", "limits", "told"] f fd) (T : Bn mg) (cD : Cal P w K mg base 1 "_law_draw" spDraw []) (cS : Cal P w K mg base (m + 1) "_law_size" (spSize K m) []) (cP : Cal P w K mg base (2 * m + 2) "_law_part" (spPart K m) []) :
    Cal P w K mg base (2 * m + 3) "_law_counted" (spCtd K m) [] := by
  refine D.cal (D.F.ok sc_counted (fun vs H Q E h => ?_) (fun cdv A outer s H vs Q E hr h => ?_))
  · obtain ⟨a, r, how, depth, limits, told, rfl, _⟩ := h
    rfl
  obtain ⟨a, r, how, depth, limits, told, rfl, hh, hp, hro, har, hd0, hd7, q⟩ := h
  refine ⟨_, (pss_cons (ps_set (i := 6) sc_counted.nd rfl (Or.inl rfl) (pe_ix (kix_list K) (pe_lstA (pa_cons pe_non (pa_cons pe_non (pa_cons (pe_c cD hr (by omega) rfl (pa_cons (pv 0) (pa_cons pe_int pa_nil))) pa_nil)))) (pe_c cD hr (by omega) rfl (pa_cons (pv 0) (pa_cons pe_int pa_nil))) (fun _ _ => rfl)))
    (pss_cons (ps_set (i := 7) sc_counted.nd rfl (Or.inl rfl) (pe_ix (kix_list K) (pe_lstA (pa_cons pe_non (pa_cons (pe_c cD hr (by omega) rfl (pa_cons (pv 0) (pa_cons pe_int pa_nil))) pa_nil))) (pe_c cD hr (by omega) rfl (pa_cons (pv 0) (pa_cons pe_int pa_nil))) (fun _ _ => rfl)))
    (pss_cons (ps_set (i := 8) sc_counted.nd rfl (Or.inl rfl) (pe_c cP hr (by omega) rfl (pa_cons (pv 0) (pa_cons (pv 2) (pa_cons (pv 3) (pa_cons (pv 4) (pa_cons (pv 5) pa_nil)))))))
    (pss_cons (ps_if (PW.pt (pw_or (pt_val (pv 5)) (pw_or1 (pt_cmpR op_isN (pe_c cS hr (by omega) rfl (pa_cons (pv 8) pa_nil)) pe_non (nomark _)))))
      (pss_one (ps_set (i := 7) sc_counted.nd rfl (Or.inl rfl) pe_non))
      pss_nil)
    (pss_one (ps_ret (pe_tupA (pa_cons pe_str (pa_cons (pv 1) (pa_cons (pv 6) (pa_cons (pv 7) (pa_cons (pv 8) pa_nil)))))))))))), ?_⟩
  simp only [and_assoc, tSeq, tAsg, tIfS, tTest, tOp, tVar, tC, rI0, rI, tCB, tCons, tNil, gName, tNext, tRet, tRetN, tLst, tTup, tDrop, tUn, rU, tB, tAnd, tOr, tNot, tAndV, tOrV, tNotV, tIf, tCall, tSl, tBM, tBM0, rAppend, rExtend, StX.tStar, gTup, wipe, tPart, tNoPart, L2.cxOf_K, L2.NewA, L2.iZipM, L2.tTupA, L2.tLstA, L2.rCatL, L2.rRepL, L2.rCatTA, L2.rSlLA, L2.rSlTA, L2.tFor_eq, L2.tLc_eq, iList, iTup, iRng1, iRng2, iRng3, iEnum, iZip, rSetL, tYes, rIn, L2.tMatch, L2.cIf, L2.cAny, L2.cNil, rIxL, rIxT, rEq, rNe, gSub, gNil, gCons, tPar, List.append_nil, L2.start, List.map_cons, List.map_nil, List.cons_append, List.nil_append, List.length_cons, List.length_nil, List.replicate, V.int.injEq, V.ref.injEq, V.bl.injEq, V.str.injEq, List.cons.injEq, Option.some.injEq, exists_eq_left, exists_eq_left', and_true, true_and, List.getElem?_cons_zero, List.getElem?_cons_succ, List.set_cons_zero, List.set_cons_succ, exists_and_left, exists_and_right, exists_eq', exists_eq, exists_eq_right, exists_eq_right', Nat.reduceAdd, Nat.reduceSub, decide_eq_true_eq, Bool.not_eq_true', decide_eq_false_iff_not, reduceCtorEq, false_and, and_false, or_false, false_or, exists_false, exists_const, Bool.false_eq_true, if_true, if_false]
  refine ⟨a, 4, rfl, hp, by decide, by decide, fun x H1 x0 x1 e1 p1 => ?_⟩
  have b1 := Beh.draw hro har e1 p1
  refine ⟨szl (by decide), fun l2 H2 hl2 g2 hx2 => ⟨a, 3, rfl, p1.same g2, by decide, by decide, fun y H3 y0 y1 e3 p3 => ?_⟩⟩
  have b2 := b1.trans (Beh.same b1.p b1.r g2)
  have b3 := b2.trans (Beh.draw b2.r har e3 p3)
  have n2a := ne_pool b1.p hl2
  obtain ⟨most, hmost, fmost⟩ := at_flat (xs := [V.non, V.non, V.int x]) y0 y1 rfl
  refine ⟨_, y, rfl, SqL.of (e3 _ _ (by simp [n2a]) hx2), most, hmost, ?_⟩
  refine ⟨a, 3, rfl, p3, by decide, by decide, fun x' H4 x0' x1' e4 p4 => ?_⟩
  have b4 := b3.trans (Beh.draw b3.r har e4 p4)
  refine ⟨szl (by decide), fun l5 H5 hl5 g5 hx5 => ⟨a, 2, rfl, p4.same g5, by decide, by decide, fun y' H6 y0' y1' e6 p6 => ?_⟩⟩
  have b5 := b4.trans (Beh.same b4.p b4.r g5)
  have b6 := b5.trans (Beh.draw b5.r har e6 p6)
  have n5a := ne_pool b4.p hl5
  obtain ⟨ahead, hah, fah⟩ := at_flat (xs := [V.non, V.int x']) y0' y1' rfl
  refine ⟨_, y', rfl, SqL.of (e6 _ _ (by simp [n5a]) hx5), ahead, hah, ?_⟩
  refine ⟨a, r, depth, limits, told, rfl, b6.p, b6.r, har, hd0, hd7, fun v d H7 hdr b67 hDv => ?_⟩
  have b7 := b6.trans b67
  have fin : ∀ (H8 H9 : Hp) (p : Addr) (ah : V), Same H7 H8 → flatOk ah = true → H8 p = none → Same H8 H9 → H9 p = some (.tup [V.str (Str.ofString "counted"), V.str how, most, ah, v]) → Q (.ref p) H9 := by
    intro H8 H9 p ah g8 fa hn g9 hx
    have g79 := g8.trans g9
    refine q _ (.tuple (.str "counted" :: ([V.str how, most, ah].map vD ++ [d]))) H9 (Drw.one (by decide +kernel) (vDs_flat (fcons (fstr hh) (fcons fmost (fcons fa fnil)))) (by simp) (fun z => absurd z (by decide +kernel)) hdr) (b7.trans (Beh.same b7.p b7.r g79)) ?_
    exact .ofT hx (.cons (.str _) ((vDs_dp (fcons (fstr hh) (fcons fmost (fcons fa fnil)))).append (.cons (Dp.same g79 hDv) .nil)))
  refine ite2 (fun _ => ⟨szl (by decide), fun p H9 hn g9 hx => fin H7 H9 p .non (Same.refl _) rfl hn g9 hx⟩) (fun _ => ?_)
  refine ⟨v, d, rfl, hdr.p, hDv, fun H8 g8 => ?_⟩
  exact ite2 (fun _ => ⟨szl (by decide), fun p H9 hn g9 hx => fin H8 H9 p .non g8 rfl hn g9 hx⟩) (fun _ => ⟨szl (by decide), fun p H9 hn g9 hx => fin H8 H9 p ahead g8 fah hn g9 hx⟩)
theorem ok_within {m : Nat} (D : Dfn K mg "_law_within" s_within ["pool", "how", "room", "depth", "limits"] f fd) (T : Bn mg) (cD : Cal P w K mg base 1 "_law_draw" spDraw []) (cP : Cal P w K mg base (2 * m + 2) "_law_part" (spPart K m) []) :
    Cal P w K mg base (2 * m + 3) "_law_within" (spWth K m) [] := by
  refine D.cal (D.F.ok sc_within (fun vs H Q E h => ?_) (fun cdv A outer s H vs Q E hr h => ?_))
  · obtain ⟨a, r, how, depth, limits, rfl, _⟩ := h
    rfl
  obtain ⟨a, r, how, depth, limits, rfl, hh, hp, hro, har, hd0, hd7, q⟩ := h
  refine ⟨_, (pss_cons (ps_set (i := 5) sc_within.nd rfl (Or.inl rfl) (pe_ix (kix_list K) (pe_lstA (pa_cons pe_non (pa_cons pe_non (pa_cons (pe_c cD hr (by omega) rfl (pa_cons (pv 0) (pa_cons pe_int pa_nil))) pa_nil)))) (pe_c cD hr (by omega) rfl (pa_cons (pv 0) (pa_cons pe_int pa_nil))) (fun _ _ => rfl)))
    (pss_cons (ps_set (i := 6) sc_within.nd rfl (Or.inl rfl) (pe_ix (kix_list K) (pe_lstA (pa_cons pe_str (pa_cons pe_str (pa_cons pe_str (pa_cons pe_str pa_nil))))) (pe_c cD hr (by omega) rfl (pa_cons (pv 0) (pa_cons pe_int pa_nil))) (fun _ _ => rfl)))
    (pss_cons (ps_set (i := 7) sc_within.nd rfl (Or.inl rfl) (pe_ix (kix_list K) (pe_lstA (pa_cons pe_str (pa_cons pe_str pa_nil))) (pe_c cD hr (by omega) rfl (pa_cons (pv 0) (pa_cons pe_int pa_nil))) (fun _ _ => rfl)))
    (pss_one (ps_ret (pe_tupA (pa_cons pe_str (pa_cons (pv 1) (pa_cons (pv 5) (pa_cons (pv 6) (pa_cons (pv 7) (pa_cons (pe_c cP hr (by omega) rfl (pa_cons (pv 0) (pa_cons (pv 2) (pa_cons (pv 3) (pa_cons (pe_op op_add (pv 4) pe_int) (pa_cons (pe_cmpR op_eq (pv 6) pe_str (nomark _)) pa_nil)))))) pa_nil)))))))))))), ?_⟩
  simp only [and_assoc, tSeq, tAsg, tIfS, tTest, tOp, tVar, tC, rI0, rI, tCB, tCons, tNil, gName, tNext, tRet, tRetN, tLst, tTup, tDrop, tUn, rU, tB, tAnd, tOr, tNot, tAndV, tOrV, tNotV, tIf, tCall, tSl, tBM, tBM0, rAppend, rExtend, StX.tStar, gTup, wipe, tPart, tNoPart, L2.cxOf_K, L2.NewA, L2.iZipM, L2.tTupA, L2.tLstA, L2.rCatL, L2.rRepL, L2.rCatTA, L2.rSlLA, L2.rSlTA, L2.tFor_eq, L2.tLc_eq, iList, iTup, iRng1, iRng2, iRng3, iEnum, iZip, rSetL, tYes, rIn, L2.tMatch, L2.cIf, L2.cAny, L2.cNil, rIxL, rIxT, rEq, rNe, gSub, gNil, gCons, tPar, List.append_nil, L2.start, List.map_cons, List.map_nil, List.cons_append, List.nil_append, List.length_cons, List.length_nil, List.replicate, V.int.injEq, V.ref.injEq, V.bl.injEq, V.str.injEq, List.cons.injEq, Option.some.injEq, exists_eq_left, exists_eq_left', and_true, true_and, List.getElem?_cons_zero, List.getElem?_cons_succ, List.set_cons_zero, List.set_cons_succ, exists_and_left, exists_and_right, exists_eq', exists_eq, exists_eq_right, exists_eq_right', Nat.reduceAdd, Nat.reduceSub, decide_eq_true_eq, Bool.not_eq_true', decide_eq_false_iff_not, reduceCtorEq, false_and, and_false, or_false, false_or, exists_false, exists_const, Bool.false_eq_true, if_true, if_false]
  refine ⟨a, 4, rfl, hp, by decide, by decide, fun x H1 x0 x1 e1 p1 => ?_⟩
  have b1 := Beh.draw hro har e1 p1
  refine ⟨szl (by decide), fun l2 H2 hl2 g2 hx2 => ⟨a, 3, rfl, p1.same g2, by decide, by decide, fun y H3 y0 y1 e3 p3 => ?_⟩⟩
  have b2 := b1.trans (Beh.same b1.p b1.r g2)
  have b3 := b2.trans (Beh.draw b2.r har e3 p3)
  have n2a := ne_pool b1.p hl2
  obtain ⟨most, hmost, fmost⟩ := at_flat (xs := [V.non, V.non, V.int x]) y0 y1 rfl
  refine ⟨_, y, rfl, SqL.of (e3 _ _ (by simp [n2a]) hx2), most, hmost, ?_⟩
  refine ⟨szl (by decide), fun l4 H4 hl4 g4 hx4 => ⟨a, 4, rfl, p3.same g4, by decide, by decide, fun z H5 z0 z1 e5 p5 => ?_⟩⟩
  have b4 := b3.trans (Beh.same b3.p b3.r g4)
  have b5 := b4.trans (Beh.draw b4.r har e5 p5)
  have n4a := ne_pool b3.p hl4
  obtain ⟨limit, hlim, flim⟩ := at_str (xs := ["nested", "nested", "cut", "told"]) z0 z1
  have flim' : PyData.strOk limit = true := by
    simp only [List.mem_cons, List.not_mem_nil, or_false] at flim
    rcases flim with rfl | rfl | rfl | rfl <;> decide +kernel
  refine ⟨_, z, rfl, SqL.of (e5 _ _ (by simp [n4a]) hx4), _, hlim, ?_⟩
  refine ⟨szl (by decide), fun l6 H6 hl6 g6 hx6 => ⟨a, 2, rfl, p5.same g6, by decide, by decide, fun y H7 y0 y1 e7 p7 => ?_⟩⟩
  have b6 := b5.trans (Beh.same b5.p b5.r g6)
  have b7 := b6.trans (Beh.draw b6.r har e7 p7)
  have n6a := ne_pool b5.p hl6
  obtain ⟨rest, hrest, frest⟩ := at_str (xs := ["skip", "exact"]) y0 y1
  have frest' : PyData.strOk rest = true := by
    simp only [List.mem_cons, List.not_mem_nil, or_false] at frest
    rcases frest with rfl | rfl <;> decide +kernel
  refine ⟨_, y, rfl, SqL.of (e7 _ _ (by simp [n6a]) hx6), _, hrest, rfl, ?_⟩
  refine ⟨a, r, depth, limits + 1, _, rfl, b7.p, b7.r, har, hd0, hd7, fun v d H8 hdr b78 hDv => ⟨szl (by decide), fun p H9 hn g9 hx => ?_⟩⟩
  have b8 := b7.trans b78
  have ff := fcons (fstr hh) (fcons fmost (fcons (fstr flim') (fcons (fstr frest') fnil)))
  refine q _ (.tuple (.str "within" :: ([V.str how, most, V.str limit, V.str rest].map vD ++ [d]))) H9 (Drw.one (by decide +kernel) (vDs_flat ff) (by simp) (fun z => absurd z (by decide +kernel)) hdr) (b8.trans (Beh.same b8.p b8.r g9)) ?_
  exact .ofT hx (.cons (.str _) ((vDs_dp ff).append (.cons (Dp.same g9 hDv) .nil)))
theorem ok_options {m : Nat} (D : Dfn K mg "_law_options" s_options ["pool", "room", "depth", "limits", "told"] f fd) (T : Bn mg) (cD : Cal P w K mg base 1 "_law_draw" spDraw []) (cP : Cal P w K mg base (2 * m + 2) "_law_part" (spPart K m) []) (hm : m ≤ 16) :
    Cal P w K mg base (2 * m + 3) "_law_options" (spOpts K m) [] := by
  refine D.cal (D.F.ok sc_options (fun vs H Q E h => ?_) (fun cdv A outer s H vs Q E hr h => ?_))
  · obtain ⟨a, r, depth, limits, told, rfl, _⟩ := h
    rfl
  obtain ⟨a, r, depth, limits, told, rfl, hp, hro, har, hd0, hd7, q⟩ := h
  have hu64 := hr.units
  refine ⟨_, (pss_cons (ps_set (i := 5) sc_options.nd rfl (Or.inl rfl) (pe_lstA pa_nil))
    (pss_cons (ps_for PassesOwn.never rfl (kpi_list K (pe_slice (ksl_list K) (pe_lstA (pa_cons pe_int (pa_cons pe_int (pa_cons pe_int (pa_cons pe_int (pa_cons pe_int (pa_cons pe_int pa_nil))))))) po_none (po_some (pe_op op_add pe_int (pe_c cD hr (by omega) rfl (pa_cons (pv 0) (pa_cons pe_int pa_nil))))))) (pg_name (i := 6) sc_options.nd rfl (Or.inl rfl))
      (pss_one (ps_if (PW.pt (pw_or (pt_cmpR (kop_eqD K rfl hu64) (pv 5) (pe_lstA pa_nil) (nomark _)) (pw_or1 (pt_cmpR op_gt (pe_ix (kix_list K) (pv 1) pe_int (fun _ _ => rfl)) pe_int (nomark _)))))
        (pss_one (ps_expr (pe_bm PySem.F.plainAttrs_list PySem.F.slot_list_append PySem.F.type_list_append mt_append (pv 5) (pa_cons (pe_tupA (pa_cons (pv 6) (pa_cons (pe_c cP hr (by omega) rfl (pa_cons (pv 0) (pa_cons (pv 1) (pa_cons (pv 2) (pa_cons (pv 3) (pa_cons (pv 4) pa_nil)))))) pa_nil))) pa_nil))))
        pss_nil)))
    (pss_one (ps_ret (pe_callTy (kcall_tuple_of K) (by rfl) T.tuple (by decide +kernel) (pa_cons (pv 5) pa_nil)))))), ?_⟩
  simp only [and_assoc, tSeq, tAsg, tIfS, tTest, tOp, tVar, tC, rI0, rI, tCB, tCons, tNil, gName, tNext, tRet, tRetN, tLst, tTup, tDrop, tUn, rU, tB, tAnd, tOr, tNot, tAndV, tOrV, tNotV, tIf, tCall, tSl, tBM, tBM0, rAppend, rExtend, StX.tStar, gTup, wipe, tPart, tNoPart, L2.cxOf_K, L2.NewA, L2.iZipM, L2.tTupA, L2.tLstA, L2.rCatL, L2.rRepL, L2.rCatTA, L2.rSlLA, L2.rSlTA, L2.tFor_eq, L2.tLc_eq, iList, iTup, iRng1, iRng2, iRng3, iEnum, iZip, rSetL, tYes, rIn, L2.tMatch, L2.cIf, L2.cAny, L2.cNil, rIxL, rIxT, rEq, rNe, gSub, gNil, gCons, tPar, List.append_nil, L2.start, List.map_cons, List.map_nil, List.cons_append, List.nil_append, List.length_cons, List.length_nil, List.replicate, V.int.injEq, V.ref.injEq, V.bl.injEq, V.str.injEq, List.cons.injEq, Option.some.injEq, exists_eq_left, exists_eq_left', and_true, true_and, List.getElem?_cons_zero, List.getElem?_cons_succ, List.set_cons_zero, List.set_cons_succ, exists_and_left, exists_and_right, exists_eq', exists_eq, exists_eq_right, exists_eq_right', Nat.reduceAdd, Nat.reduceSub, decide_eq_true_eq, Bool.not_eq_true', decide_eq_false_iff_not, reduceCtorEq, false_and, and_false, or_false, false_or, exists_false, exists_const, Bool.false_eq_true, if_true, if_false]
  refine ⟨szl (by decide), fun l H1 hl g1 hx1 => ⟨szl (by decide), fun l2 H2 hl2 g2 hx2 => ⟨a, 6, rfl, (hp.same g1).same g2, by decide, by decide, fun x H3 x0 x1 e3 p3 => ?_⟩⟩⟩
  have b1 := Beh.same hp hro g1
  have b2 := b1.trans (Beh.same b1.p b1.r g2)
  have b3 := b2.trans (Beh.draw b2.r har e3 p3)
  have nla := ne_pool hp hl
  have nlr := ne_room hro hl
  have n2a := ne_pool b1.p hl2
  refine ⟨x, rfl, _, SqL.of (e3 _ _ (by simp [n2a]) hx2), fun c H4 hc g4 hx4 => ⟨⟨_, SqL.of hx4⟩, ?_⟩⟩
  have b4 := b3.trans (Beh.same b3.p b3.r g4)
  rw [cut_to (by omega)] at hx4
  have hl3 : H3 l = some (.lst []) := e3 _ _ (by simp [nla]) (g2 _ _ hx1)
  have ncl : c ≠ l := fun z => by subst z; rw [hl3] at hc; cases hc
  have nca := ne_pool b3.p hc
  have ncr := ne_room b3.r hc
  have hz6 : (([V.int 0, V.int 2, V.int 3, V.int 7, V.int 8, V.int 99] : List V).take (1 + x).toNat).length = (1 + x).toNat := by
    rw [List.length_take]
    simp
    omega
  have hzi : ∀ v ∈ ([V.int 0, V.int 2, V.int 3, V.int 7, V.int 8, V.int 99] : List V).take (1 + x).toNat, ∃ n : Int, v = .int n := fun v hv => by
    have := List.mem_of_mem_take hv
    simp only [List.mem_cons, List.not_mem_nil, or_false] at this
    rcases this with rfl | rfl | rfl | rfl | rfl | rfl <;> exact ⟨_, rfl⟩
  generalize ([V.int 0, V.int 2, V.int 3, V.int 7, V.int 8, V.int 99] : List V).take (1 + x).toNat = zs at hx4 hz6 hzi
  refine forB (walk_list (K := K) (a := c) (xs := zs)) (fun i σ H' => ∃ (o : Option V) (us : List V) (os : List (Int × PyData)), σ = [some (.ref a), some (.ref r), some (.int depth), some (.int limits), some (.bl told), some (.ref l), o] ∧ Beh a r H H' ∧ H' l = some (.lst us) ∧ H' c = some (.lst zs) ∧
      DpAll K H' us (os.map fun o => .tuple [.int o.1, o.2]) ∧ (∀ o ∈ os, Drw m o.2) ∧ os.length ≤ i ∧ (0 < i → 0 < os.length)) ?_ ?_ ?_ ?_
  · exact ⟨none, [], [], rfl, b4, g4 _ _ hl3, hx4, .nil, by simp, Nat.le_refl _, fun h => absurd h (Nat.lt_irrefl _)⟩
  · rintro i σ H' _ ⟨o, us, os, _, _, _, h, _⟩
    exact SqL.of h
  · rintro i v σ H5 H6 hi ⟨o, us, os, rfl, b5, hl5, hc5, hA5, hdr5, hi5, hpos5⟩ ⟨rfl, hv⟩
    obtain ⟨nb, rfl⟩ := hzi v (List.mem_of_getElem? hv)
    simp only [and_assoc, tSeq, tAsg, tIfS, tTest, tOp, tVar, tC, rI0, rI, tCB, tCons, tNil, gName, tNext, tRet, tRetN, tLst, tTup, tDrop, tUn, rU, tB, tAnd, tOr, tNot, tAndV, tOrV, tNotV, tIf, tCall, tSl, tBM, tBM0, rAppend, rExtend, StX.tStar, gTup, wipe, tPart, tNoPart, L2.cxOf_K, L2.NewA, L2.iZipM, L2.tTupA, L2.tLstA, L2.rCatL, L2.rRepL, L2.rCatTA, L2.rSlLA, L2.rSlTA, L2.tFor_eq, L2.tLc_eq, iList, iTup, iRng1, iRng2, iRng3, iEnum, iZip, rSetL, tYes, rIn, L2.tMatch, L2.cIf, L2.cAny, L2.cNil, rIxL, rIxT, rEq, rNe, gSub, gNil, gCons, tPar, List.append_nil, L2.start, List.map_cons, List.map_nil, List.cons_append, List.nil_append, List.length_cons, List.length_nil, List.replicate, V.int.injEq, V.ref.injEq, V.bl.injEq, V.str.injEq, List.cons.injEq, Option.some.injEq, exists_eq_left, exists_eq_left', and_true, true_and, List.getElem?_cons_zero, List.getElem?_cons_succ, List.set_cons_zero, List.set_cons_succ, exists_and_left, exists_and_right, exists_eq', exists_eq, exists_eq_right, exists_eq_right', Nat.reduceAdd, Nat.reduceSub, decide_eq_true_eq, Bool.not_eq_true', decide_eq_false_iff_not, reduceCtorEq, false_and, and_false, or_false, false_or, exists_false, exists_const, Bool.false_eq_true, if_true, if_false]
    refine ⟨szl (by decide), fun e H7 he g7 hx7 => ?_⟩
    have b7 := b5.trans (Beh.same b5.p b5.r g7)
    have nl : ∀ o ∈ os, noL (.tuple [.int o.1, o.2]) = true := fun o ho => by simp [noL, noLs, (hdr5 o ho).p.noL]
    have nls : noLs (os.map fun o => .tuple [.int o.1, o.2]) = true := noLs_of fun d hd => by
      obtain ⟨o, ho, rfl⟩ := List.mem_map.mp hd
      exact nl o ho
    have hA7 := DpAll.same g7 hA5
    have hl7 := g7 _ _ hl5
    have hc7 := g7 _ _ hc5
    -- one more option
    have more : spPart K m [V.ref a, V.ref r, V.int depth, V.int limits, V.bl told] H7 (fun x H1 => 2 ≤ sizeLine ∧ ∀ (p : Addr) (H2 : Hp), H1 p = none → Same H1 H2 → H2 p = some (HO.tup [V.int nb, x]) →
        ∃ x, H2 l = some (HO.lst x) ∧ x.length < sizeLine ∧ Beh a r H (upd H2 l (HO.lst (x ++ [V.ref p]))) ∧ ∃ us, upd H2 l (HO.lst (x ++ [V.ref p])) l = some (HO.lst us) ∧ upd H2 l (HO.lst (x ++ [V.ref p])) c = some (HO.lst zs) ∧
          ∃ os : List (Int × PyData), DpAll K (upd H2 l (HO.lst (x ++ [V.ref p]))) us (os.map fun o => .tuple [.int o.1, o.2]) ∧ (∀ o ∈ os, Drw m o.2) ∧ os.length ≤ i + 1 ∧ (0 < i + 1 → 0 < os.length)) C8.E0 := by
      refine ⟨a, r, depth, limits, told, rfl, b7.p, b7.r, har, hd0, hd7, fun v d H8 hdr b78 hDv => ⟨szl (by decide), fun p H9 hn g9 hx9 => ?_⟩⟩
      have b8 := b7.trans b78
      have hl8 := b78.lst nla nlr hl7
      have hl9 := g9 _ _ hl8
      have hul : us.length ≤ 1000 := by
        have h1 : us.length = os.length := by rw [hA5.len, List.length_map]
        have h2 : i < zs.length := hi
        omega
      have ts : TSame H9 (upd H9 l (.lst (us ++ [.ref p]))) := ts_lst (TSame.refl _) hl9 _
      have b9 := b8.trans (Beh.same b8.p b8.r g9)
      refine ⟨us, hl9, szlt (by omega), ⟨?_, ?_, ?_⟩, _, upd_same, ?_, os ++ [(nb, d)], ?_, ?_, ?_, fun _ => by simp⟩
      · exact keep_new b9.k hl _
      · obtain ⟨x, y, e, ho⟩ := b9.p
        exact ⟨x, y, by rw [upd_ne (Ne.symm nla)]; exact e, ho⟩
      · obtain ⟨n, e⟩ := b9.r
        exact ⟨n, by rw [upd_ne (Ne.symm nlr)]; exact e⟩
      · rw [upd_ne ncl]
        exact g9 _ _ (b78.lst nca ncr hc7)
      · rw [List.map_append]
        have hA9 : DpAll K H9 us (os.map fun o => .tuple [.int o.1, o.2]) := DpAll.same g9 (DpAll.ts (b78.ts b7.p b7.r) nls hA7)
        refine (DpAll.ts ts nls hA9).append (.cons (Dp.ts ts (by simp [noL, noLs, hdr.p.noL]) ?_) .nil)
        exact .ofT hx9 (.cons (.int _) (.cons (Dp.same g9 hDv) .nil))
      · intro o ho
        rcases List.mem_append.mp ho with ho | ho
        · exact hdr5 o ho
        · rw [List.mem_singleton.mp ho]; exact hdr
      · simp; omega
    refine ⟨_, .list [], .ofL hl7 hA7, .ofL hx7 .nil, ?_, rfl, _, rfl, ?_⟩
    · refine (Laid.list (m := 3 * m + 1) fun d hd => ?_).shaped (by omega)
      obtain ⟨o, ho, rfl⟩ := List.mem_map.mp hd
      refine Laid.tuple fun d hd => ?_
      simp only [List.mem_cons, List.not_mem_nil, or_false] at hd
      rcases hd with rfl | rfl
      · exact Laid.int
      · exact (hdr5 o ho).p.laid
    · refine ite2 (fun _ => ⟨.inl ⟨rfl, _, SqL.of hl7⟩, more⟩) (fun hne => ?_)
      obtain ⟨rn, hrn⟩ := b7.r
      refine ⟨_, SqL.of hrn, _, at0, _, rfl, ite2 (fun _ => ⟨.inl ⟨rfl, _, SqL.of hl7⟩, more⟩) (fun _ => ⟨b7, us, hl7, hc7, os, hA7, hdr5, by omega, fun _ => ?_⟩)⟩
      cases os with
      | nil => exact absurd rfl hne
      | cons o os => simp
  · rintro σ H' ⟨o, us, os, rfl, b5, hl5, hc5, hA5, hdr5, hi5, hpos5⟩
    simp only [and_assoc, tSeq, tAsg, tIfS, tTest, tOp, tVar, tC, rI0, rI, tCB, tCons, tNil, gName, tNext, tRet, tRetN, tLst, tTup, tDrop, tUn, rU, tB, tAnd, tOr, tNot, tAndV, tOrV, tNotV, tIf, tCall, tSl, tBM, tBM0, rAppend, rExtend, StX.tStar, gTup, wipe, tPart, tNoPart, L2.cxOf_K, L2.NewA, L2.iZipM, L2.tTupA, L2.tLstA, L2.rCatL, L2.rRepL, L2.rCatTA, L2.rSlLA, L2.rSlTA, L2.tFor_eq, L2.tLc_eq, iList, iTup, iRng1, iRng2, iRng3, iEnum, iZip, rSetL, tYes, rIn, L2.tMatch, L2.cIf, L2.cAny, L2.cNil, rIxL, rIxT, rEq, rNe, gSub, gNil, gCons, tPar, List.append_nil, L2.start, List.map_cons, List.map_nil, List.cons_append, List.nil_append, List.length_cons, List.length_nil, List.replicate, V.int.injEq, V.ref.injEq, V.bl.injEq, V.str.injEq, List.cons.injEq, Option.some.injEq, exists_eq_left, exists_eq_left', and_true, true_and, List.getElem?_cons_zero, List.getElem?_cons_succ, List.set_cons_zero, List.set_cons_succ, exists_and_left, exists_and_right, exists_eq', exists_eq, exists_eq_right, exists_eq_right', Nat.reduceAdd, Nat.reduceSub, decide_eq_true_eq, Bool.not_eq_true', decide_eq_false_iff_not, reduceCtorEq, false_and, and_false, or_false, false_or, exists_false, exists_const, Bool.false_eq_true, if_true, if_false]
    refine ⟨_, .inl (SqL.of hl5), fun t H6 g6 hT6 => ?_⟩
    exact q _ os H6 hdr5 (hpos5 (by omega)) (by omega) (b5.trans (Beh.same b5.p b5.r g6)) (.tup hT6 (DpAll.same g6 hA5))
theorem ok_part {m : Nat} (D : Dfn K mg "_law_part" s_part ["pool", "room", "depth", "limits", "told"] f fd) (T : Bn mg) (cD : Cal P w K mg base 1 "_law_draw" spDraw []) (cL : Cal P w K mg base 2 "_law_leaf" (spLeaf K) []) (cO : Cal P w K mg base (2 * m + 3) "_law_options" (spOpts K m) [])
    (cC : Cal P w K mg base (2 * m + 3) "_law_counted" (spCtd K m) []) (cW : Cal P w K mg base (2 * m + 3) "_law_within" (spWth K m) []) (cP : Cal P w K mg base (2 * m + 2) "_law_part" (spPart K m) []) :
    Cal P w K mg base (2 * m + 4) "_law_part" (spPart K (m + 1)) [] := by
  refine D.cal (D.F.ok sc_part (fun vs H Q E h => ?_) (fun cdv A outer s H vs Q E hr h => ?_))
  · obtain ⟨a, r, depth, limits, told, rfl, _⟩ := h
    rfl
  obtain ⟨a, r, depth, limits, told, rfl, hp, hro, har, hd0, hd7, q⟩ := h
  refine ⟨_, (pss_cons (ps_asg (pe_op op_sub (pe_ix (kix_list K) (pv 1) pe_int (fun _ _ => rfl)) pe_int) (pg_sub (pv 1) pe_int set_list))
    (pss_cons (ps_set (i := 5) sc_part.nd rfl (Or.inl rfl) (pe_ix (kix_list K) (pe_lstA (pa_cons pe_str (pa_cons pe_str (pa_cons pe_str pa_nil)))) (pe_c cD hr (by omega) rfl (pa_cons (pv 0) (pa_cons pe_int pa_nil))) (fun _ _ => rfl)))
    (pss_cons (ps_set (i := 6) sc_part.nd rfl (Or.inl rfl) (pe_c cD hr (by omega) rfl (pa_cons (pv 0) (pa_cons pe_int pa_nil))))
    (pss_cons (ps_if (PW.pt (pw_or (pt_cmpR op_lt (pv 6) pe_int (nomark _)) (pw_or (pt_cmpR op_lt (pe_ix (kix_list K) (pv 1) pe_int (fun _ _ => rfl)) pe_int (nomark _)) (pw_or1 (pt_cmpR op_gt (pv 2) pe_int (nomark _))))))
      (pss_one (ps_ret (pe_c cL hr (by omega) rfl (pa_cons (pv 0) (pa_cons (pv 5) (pa_cons (pv 4) pa_nil))))))
      pss_nil)
    (pss_cons (ps_if (pt_cmpR op_lt (pv 6) pe_int (nomark _))
      (pss_cons (ps_set (i := 7) sc_part.nd rfl (Or.inl rfl) (pe_lstA pa_nil))
      (pss_cons (ps_for PassesOwn.never rfl (pi_range1 rfl T.range (pa_cons (pe_c cD hr (by omega) rfl (pa_cons (pv 0) (pa_cons pe_int pa_nil))) pa_nil)) (pg_name (i := 8) sc_part.nd rfl (Or.inl rfl))
        (pss_one (ps_if (pt_cmpR op_gt (pe_ix (kix_list K) (pv 1) pe_int (fun _ _ => rfl)) pe_int (nomark _))
          (pss_one (ps_expr (pe_bm PySem.F.plainAttrs_list PySem.F.slot_list_append PySem.F.type_list_append mt_append (pv 7) (pa_cons (pe_c cP hr (by omega) rfl (pa_cons (pv 0) (pa_cons (pv 1) (pa_cons (pe_op op_add (pv 2) pe_int) (pa_cons (pv 3) (pa_cons (pv 4) pa_nil)))))) pa_nil))))
          pss_nil)))
      (pss_one (ps_ret (pe_tupA (pa_cons pe_str (pa_cons (pe_callTy (kcall_tuple_of K) (by rfl) T.tuple (by decide +kernel) (pa_cons (pv 7) pa_nil)) pa_nil)))))))
      pss_nil)
    (pss_cons (ps_if (pt_cmpR op_eq (pv 6) pe_int (nomark _))
      (pss_one (ps_ret (pe_tupA (pa_cons pe_str (pa_cons (pv 5) (pa_cons (pe_c cO hr (by omega) rfl (pa_cons (pv 0) (pa_cons (pv 1) (pa_cons (pe_op op_add (pv 2) pe_int) (pa_cons (pv 3) (pa_cons (pv 4) pa_nil)))))) pa_nil))))))
      pss_nil)
    (pss_cons (ps_if (pt_cmpR op_eq (pv 6) pe_int (nomark _))
      (pss_one (ps_ret (pe_tupA (pa_cons pe_str (pa_cons (pe_c cD hr (by omega) rfl (pa_cons (pv 0) (pa_cons pe_int pa_nil))) (pa_cons (pe_c cP hr (by omega) rfl (pa_cons (pv 0) (pa_cons (pv 1) (pa_cons (pe_op op_add (pv 2) pe_int) (pa_cons (pv 3) (pa_cons (pv 4) pa_nil)))))) pa_nil))))))
      pss_nil)
    (pss_cons (ps_if (PW.pt (pw_or (pt_cmpR op_eq (pv 6) pe_int (nomark _)) (pw_or1 (PW.pt (pw_and (pt_cmpR op_eq (pv 6) pe_int (nomark _)) (pw_and1 (PW.pt (pw_or (pt_val (pv 4)) (pw_or1 (pt_cmpR op_gt (pv 3) pe_int (nomark _)))))))))))
      (pss_one (ps_ret (pe_c cC hr (by omega) rfl (pa_cons (pv 0) (pa_cons (pv 5) (pa_cons (pv 1) (pa_cons (pe_op op_add (pv 2) pe_int) (pa_cons (pv 3) (pa_cons (pv 4) pa_nil)))))))))
      pss_nil)
    (pss_cons (ps_if (pt_cmpR op_eq (pv 6) pe_int (nomark _))
      (pss_one (ps_ret (pe_c cW hr (by omega) rfl (pa_cons (pv 0) (pa_cons (pv 5) (pa_cons (pv 1) (pa_cons (pe_op op_add (pv 2) pe_int) (pa_cons (pv 3) pa_nil))))))))
      pss_nil)
    (pss_one (ps_ret (pe_tupA (pa_cons (pe_ix (kix_list K) (pe_lstA (pa_cons pe_str (pa_cons pe_str pa_nil))) (pe_op op_sub (pv 6) pe_int) (fun _ _ => rfl)) (pa_cons (pe_c cP hr (by omega) rfl (pa_cons (pv 0) (pa_cons (pv 1) (pa_cons (pe_op op_add (pv 2) pe_int) (pa_cons (pv 3) (pa_cons (pv 4) pa_nil)))))) pa_nil)))))))))))))), ?_⟩
  simp only [and_assoc, tSeq, tAsg, tIfS, tTest, tOp, tVar, tC, rI0, rI, tCB, tCons, tNil, gName, tNext, tRet, tRetN, tLst, tTup, tDrop, tUn, rU, tB, tAnd, tOr, tNot, tAndV, tOrV, tNotV, tIf, tCall, tSl, tBM, tBM0, rAppend, rExtend, StX.tStar, gTup, wipe, tPart, tNoPart, L2.cxOf_K, L2.NewA, L2.iZipM, L2.tTupA, L2.tLstA, L2.rCatL, L2.rRepL, L2.rCatTA, L2.rSlLA, L2.rSlTA, L2.tFor_eq, L2.tLc_eq, iList, iTup, iRng1, iRng2, iRng3, iEnum, iZip, rSetL, tYes, rIn, L2.tMatch, L2.cIf, L2.cAny, L2.cNil, rIxL, rIxT, rEq, rNe, gSub, gNil, gCons, tPar, List.append_nil, L2.start, List.map_cons, List.map_nil, List.cons_append, List.nil_append, List.length_cons, List.length_nil, List.replicate, V.int.injEq, V.ref.injEq, V.bl.injEq, V.str.injEq, List.cons.injEq, Option.some.injEq, exists_eq_left, exists_eq_left', and_true, true_and, List.getElem?_cons_zero, List.getElem?_cons_succ, List.set_cons_zero, List.set_cons_succ, exists_and_left, exists_and_right, exists_eq', exists_eq, exists_eq_right, exists_eq_right', Nat.reduceAdd, Nat.reduceSub, decide_eq_true_eq, Bool.not_eq_true', decide_eq_false_iff_not, reduceCtorEq, false_and, and_false, or_false, false_or, exists_false, exists_const, Bool.false_eq_true, if_true, if_false]
  obtain ⟨rn, hrn⟩ := id hro
  refine ⟨_, SqL.of hrn, _, at0, _, rfl, _, hrn, _, rfl, szl (by decide), fun l2 H2 hl2 g2 hx2 => ?_⟩
  have b1 : Beh a r H (upd H r (.lst [.int (rn - 1)])) := by
    refine ⟨keep_upd (Keep.refl _ _) (by simp) _, ?_, rn - 1, upd_same⟩
    obtain ⟨x, y, e, ho⟩ := hp
    exact ⟨x, y, by rw [upd_ne har]; exact e, ho⟩
  have g2' : Same (upd H r (.lst [.int (rn - 1)])) H2 := g2
  have hl2' : (upd H r (.lst [.int (rn - 1)])) l2 = none := hl2
  generalize upd H r (.lst [.int (rn - 1)]) = H1 at b1 g2' hl2'
  have b2 := b1.trans (Beh.same b1.p b1.r g2')
  refine ⟨a, 3, rfl, b2.p, by decide, by decide, fun x H3 x0 x1 e3 p3 => ?_⟩
  have b3 := b2.trans (Beh.draw b2.r har e3 p3)
  have n2a := ne_pool b1.p hl2'
  obtain ⟨how, hhow, fhow⟩ := at_str (xs := ["checked", "checked", "bare"]) x0 x1
  have hh : PyData.strOk how = true := by
    simp only [List.mem_cons, List.not_mem_nil, or_false] at fhow
    rcases fhow with rfl | rfl | rfl <;> decide +kernel
  refine ⟨_, x, rfl, SqL.of (e3 _ _ (by simp [n2a]) hx2), _, hhow, ?_⟩
  refine ⟨a, 11, rfl, b3.p, by decide, by decide, fun kind H4 k0 k1 e4 p4 => ⟨kind, rfl, ?_⟩⟩
  have b4 := b3.trans (Beh.draw b3.r har e4 p4)
  have hr4 := b4.r
  have leaf : spLeaf K [V.ref a, V.str how, V.bl told] H4 Q C8.E0 :=
    ⟨a, how, told, rfl, hh, b4.p, fun v d H5 hdr e5 p5 hDv => q v d H5 (hdr m) (b4.trans (Beh.draw hr4 har e5 p5)) hDv⟩
  refine ite2 (fun _ => leaf) (fun hk3 => ?_)
  obtain ⟨rn4, hrn4⟩ := id b4.r
  refine ⟨_, SqL.of hrn4, _, at0, _, rfl, ite2 (fun _ => leaf) (fun _ => ite2 (fun _ => leaf) (fun hdep => ⟨kind, rfl, ite2 (fun hk5 => ?_) (fun hk5 => ⟨rfl, ?_⟩)⟩))⟩
  · -- a row
    refine ⟨szl (by decide), fun l5 H5 hl5 g5 hx5 => ?_⟩
    have b5 := b4.trans (Beh.same b4.p b4.r g5)
    have n5a := ne_pool b4.p hl5
    have n5r := ne_room b4.r hl5
    have hHl5 : H l5 = none := b4.k.none (by simp [n5a, n5r]) hl5
    refine ⟨a, 4, rfl, b5.p, by decide, by decide, fun tn H6 t0 t1 e6 p6 => ⟨tn, rfl, by omega, by omega, ?_⟩⟩
    have b6 := b5.trans (Beh.draw b5.r har e6 p6)
    have hx6 : H6 l5 = some (.lst []) := e6 _ _ (by simp [n5a]) hx5
    refine forB (walk_range (lo := 0) (n := tn.toNat)) (fun i σ H' => ∃ (o : Option V) (us : List V) (ds : List PyData), σ = [some (.ref a), some (.ref r), some (.int depth), some (.int limits), some (.bl told), some (.str how), some (.int kind), some (.ref l5), o] ∧ Beh a r H H' ∧ H' l5 = some (.lst us) ∧ DpAll K H' us ds ∧ (∀ d ∈ ds, Drw m d) ∧ ds.length ≤ i) ?_ ?_ ?_ ?_
    · exact ⟨none, [], [], rfl, b6, hx6, .nil, by simp, Nat.le_refl _⟩
    · intros; trivial
    · rintro i v σ H7 H8 hi ⟨o, us, ds, rfl, b7, hl7, hA7, hdr7, hi7⟩ ⟨rfl, rfl⟩
      have hus : us.length = ds.length := hA7.len
      have hnl : noLs ds = true := noLs_of fun d hd => (hdr7 d hd).p.noL
      simp only [and_assoc, tSeq, tAsg, tIfS, tTest, tOp, tVar, tC, rI0, rI, tCB, tCons, tNil, gName, tNext, tRet, tRetN, tLst, tTup, tDrop, tUn, rU, tB, tAnd, tOr, tNot, tAndV, tOrV, tNotV, tIf, tCall, tSl, tBM, tBM0, rAppend, rExtend, StX.tStar, gTup, wipe, tPart, tNoPart, L2.cxOf_K, L2.NewA, L2.iZipM, L2.tTupA, L2.tLstA, L2.rCatL, L2.rRepL, L2.rCatTA, L2.rSlLA, L2.rSlTA, L2.tFor_eq, L2.tLc_eq, iList, iTup, iRng1, iRng2, iRng3, iEnum, iZip, rSetL, tYes, rIn, L2.tMatch, L2.cIf, L2.cAny, L2.cNil, rIxL, rIxT, rEq, rNe, gSub, gNil, gCons, tPar, List.append_nil, L2.start, List.map_cons, List.map_nil, List.cons_append, List.nil_append, List.length_cons, List.length_nil, List.replicate, V.int.injEq, V.ref.injEq, V.bl.injEq, V.str.injEq, List.cons.injEq, Option.some.injEq, exists_eq_left, exists_eq_left', and_true, true_and, List.getElem?_cons_zero, List.getElem?_cons_succ, List.set_cons_zero, List.set_cons_succ, exists_and_left, exists_and_right, exists_eq', exists_eq, exists_eq_right, exists_eq_right', Nat.reduceAdd, Nat.reduceSub, decide_eq_true_eq, Bool.not_eq_true', decide_eq_false_iff_not, reduceCtorEq, false_and, and_false, or_false, false_or, exists_false, exists_const, Bool.false_eq_true, if_true, if_false]
      obtain ⟨rn7, hrn7⟩ := id b7.r
      refine ⟨_, SqL.of hrn7, _, at0, _, rfl, ite2 (fun _ => ⟨.inl ⟨rfl, _, SqL.of hl7⟩, ?_⟩) (fun _ => ⟨b7, us, hl7, ds, hA7, hdr7, by omega⟩)⟩
      refine ⟨a, r, depth + 1, limits, told, rfl, b7.p, b7.r, har, by omega, by omega, fun v d H8 hdr b78 hDv => ?_⟩
      have b8 := b7.trans b78
      have hl8 := b78.lst n5a n5r hl7
      have ts : TSame H8 (upd H8 l5 (.lst (us ++ [v]))) := ts_lst (TSame.refl _) hl8 _
      refine ⟨us, hl8, szlt (by omega), ⟨keep_new b8.k hHl5 _, ?_, ?_⟩, _, upd_same, ds ++ [d], ?_, ?_, by simp; omega⟩
      · obtain ⟨x, y, e, ho⟩ := b8.p
        exact ⟨x, y, by rw [upd_ne (Ne.symm n5a)]; exact e, ho⟩
      · obtain ⟨n, e⟩ := b8.r
        exact ⟨n, by rw [upd_ne (Ne.symm n5r)]; exact e⟩
      · exact (DpAll.ts ts hnl (DpAll.ts (b78.ts b7.p b7.r) hnl hA7)).append (.cons (Dp.ts ts hdr.p.noL hDv) .nil)
      · intro d' hd'
        rcases List.mem_append.mp hd' with hd' | hd'
        · exact hdr7 d' hd'
        · rw [List.mem_singleton.mp hd']; exact hdr
    · rintro σ H7 ⟨o, us, ds, rfl, b7, hl7, hA7, hdr7, hi7⟩
      simp only [and_assoc, tSeq, tAsg, tIfS, tTest, tOp, tVar, tC, rI0, rI, tCB, tCons, tNil, gName, tNext, tRet, tRetN, tLst, tTup, tDrop, tUn, rU, tB, tAnd, tOr, tNot, tAndV, tOrV, tNotV, tIf, tCall, tSl, tBM, tBM0, rAppend, rExtend, StX.tStar, gTup, wipe, tPart, tNoPart, L2.cxOf_K, L2.NewA, L2.iZipM, L2.tTupA, L2.tLstA, L2.rCatL, L2.rRepL, L2.rCatTA, L2.rSlLA, L2.rSlTA, L2.tFor_eq, L2.tLc_eq, iList, iTup, iRng1, iRng2, iRng3, iEnum, iZip, rSetL, tYes, rIn, L2.tMatch, L2.cIf, L2.cAny, L2.cNil, rIxL, rIxT, rEq, rNe, gSub, gNil, gCons, tPar, List.append_nil, L2.start, List.map_cons, List.map_nil, List.cons_append, List.nil_append, List.length_cons, List.length_nil, List.replicate, V.int.injEq, V.ref.injEq, V.bl.injEq, V.str.injEq, List.cons.injEq, Option.some.injEq, exists_eq_left, exists_eq_left', and_true, true_and, List.getElem?_cons_zero, List.getElem?_cons_succ, List.set_cons_zero, List.set_cons_succ, exists_and_left, exists_and_right, exists_eq', exists_eq, exists_eq_right, exists_eq_right', Nat.reduceAdd, Nat.reduceSub, decide_eq_true_eq, Bool.not_eq_true', decide_eq_false_iff_not, reduceCtorEq, false_and, and_false, or_false, false_or, exists_false, exists_const, Bool.false_eq_true, if_true, if_false]
      refine ⟨_, .inl (SqL.of hl7), fun t H8 g8 hT8 => ⟨szl (by decide), fun p H9 hn g9 hx9 => ?_⟩⟩
      have g79 := g8.trans g9
      exact q _ _ H9 (Drw.row hdr7 (by omega)) (b7.trans (Beh.same b7.p b7.r g79)) (.ofT hx9 (.cons (.str _) (.cons (.tup (SqT.same g9 hT8) (DpAll.same g79 hA7)) .nil)))
  -- one part with a part of its own in it
  have one : ∀ (H5 H6 : Hp) (p : Addr) (k : Str) (us : List V) (v : V) (d : PyData), Beh a r H H5 → Dp K H5 v d → Drw m d → k ∈ oneKinds → us.all flatOk = true → us.length ≤ 8 → (k = "times" → ∃ n : Int, us = [.int n] ∧ 0 ≤ n ∧ n ≤ 6) → Same H5 H6 → H6 p = some (.tup (.str k :: (us ++ [v]))) → Q (.ref p) H6 := by
    intro H5 H6 p k us v d b5 hDv hdr hk hf hl ht g6 hx
    refine q _ (.tuple (.str k :: (us.map vD ++ [d]))) H6 (Drw.one hk (vDs_flat hf) (by simpa using hl) (fun z => ?_) hdr) (b5.trans (Beh.same b5.p b5.r g6)) ?_
    · obtain ⟨n, rfl, h1, h2⟩ := ht z
      exact ⟨n, rfl, h1, h2⟩
    · exact .ofT hx (.cons (.str _) ((vDs_dp hf).append (.cons (Dp.same g6 hDv) .nil)))
  refine ite2 (fun hc5 => ?_) (fun hc5 => ⟨rfl, ite2 (fun hc6 => ?_) (fun hc6 => ⟨rfl, ?_⟩)⟩)
  · refine ⟨a, r, depth + 1, limits, told, rfl, b4.p, b4.r, har, by omega, by omega, fun v os H5 hdr hpos hle b45 hDv => ⟨szl (by decide), fun p H6 hn g6 hx => ?_⟩⟩
    have b5 := b4.trans b45
    exact q _ _ H6 (Drw.choice hh hdr hpos hle) (b5.trans (Beh.same b5.p b5.r g6)) (.ofT hx (.cons (.str _) (.cons (.str _) (.cons (Dp.same g6 hDv) .nil))))
  · refine ⟨a, 3, rfl, b4.p, by decide, by decide, fun n H5 n0 n1 e5 p5 => ?_⟩
    have b5 := b4.trans (Beh.draw b4.r har e5 p5)
    refine ⟨a, r, depth + 1, limits, told, rfl, b5.p, b5.r, har, by omega, by omega, fun v d H6 hdr b56 hDv => ⟨szl (by decide), fun p H7 hn g7 hx => ?_⟩⟩
    exact one H6 H7 p "times" [.int n] v d (b5.trans b56) hDv hdr (by decide +kernel) rfl (by simp) (fun _ => ⟨n, rfl, n0, by omega⟩) g7 hx
  have ctd : spCtd K m [V.ref a, V.str how, V.ref r, V.int (depth + 1), V.int limits, V.bl told] H4 Q C8.E0 :=
    ⟨a, r, how, depth + 1, limits, told, rfl, hh, b4.p, b4.r, har, by omega, by omega, fun v d H5 hdr b45 hDv => q v d H5 hdr (b4.trans b45) hDv⟩
  have wth : spWth K m [V.ref a, V.str how, V.ref r, V.int (depth + 1), V.int limits] H4 Q C8.E0 :=
    ⟨a, r, how, depth + 1, limits, rfl, hh, b4.p, b4.r, har, by omega, by omega, fun v d H5 hdr b45 hDv => q v d H5 hdr (b4.trans b45) hDv⟩
  refine ite2 (fun _ => ctd) (fun hc7 => ⟨rfl, ite2 (fun hc8 => ite2 (fun _ => ctd) (fun _ => ite2 (fun _ => ctd) (fun _ => ⟨rfl, ite2 (fun _ => wth) (fun hn => absurd hc8 hn)⟩))) (fun hc8 => ⟨rfl, ite2 (fun _ => wth) (fun _ => ?_)⟩)⟩)
  have n5 : kind ≠ 5 := fun z => hc5 (by rw [z])
  have n6 : kind ≠ 6 := fun z => hc6 (by rw [z])
  have n7 : kind ≠ 7 := fun z => hc7 (by rw [z])
  have n8 : kind ≠ 8 := fun z => hc8 (by rw [z])
  refine ⟨szl (by decide), fun l5 H5 hl5 g5 hx5 => ?_⟩
  obtain ⟨word, hw, fw⟩ := at_str (xs := ["fill", "if left"]) (i := kind - 9) (by omega) (by simp; omega)
  have b5 := b4.trans (Beh.same b4.p b4.r g5)
  refine ⟨kind, rfl, _, SqL.of hx5, _, hw, ?_⟩
  refine ⟨a, r, depth + 1, limits, told, rfl, b5.p, b5.r, har, by omega, by omega, fun v d H6 hdr b56 hDv => ⟨szl (by decide), fun p H7 hn g7 hx => ?_⟩⟩
  refine one H6 H7 p word [] v d (b5.trans b56) hDv hdr ?_ rfl (by simp) (fun z => ?_) g7 hx
  · simp only [List.mem_cons, List.not_mem_nil, or_false] at fw
    rcases fw with rfl | rfl <;> decide +kernel
  · simp only [List.mem_cons, List.not_mem_nil, or_false] at fw
    rcases fw with rfl | rfl <;> exact absurd z (by decide +kernel)
end

end W

set_option Elab.async false
set_option linter.all false
set_option maxRecDepth 100000
set_option maxHeartbeats 4000000
namespace W
open PySem L2
open C8 (Cal pe_c pss_cut tCut)
def spLaw (K : PySem.W.Frag) : Sp := fun vs H Q _ => ∃ (a : Addr) (ns : List Int), vs = [.ref a] ∧ SqL K H a (ns.map V.int) ∧ ns.length ≤ 63 ∧ ∀ H', Q (.bl true) H'
abbrev s_law : Stmt := (topS 19)
theorem sc_law : FnScope ["script", "k", "pool", "part", "other", "places", "told", "path", "below", "made"] ["script"] (defScope s_law) := ⟨rfl, rfl, rfl, by decide +kernel, rfl, by decide +kernel, by decide +kernel⟩
theorem same_keep {M : List Addr} {H H1 H2 : Hp} (g : Same H H1) (k : Keep M H1 H2) (h : ∀ b ∈ M, H b = none) : Same H H2 := fun b o e => k b o (fun hb => by rw [h b hb] at e; cases e) (g b o e)
section
variable {P : Program} {w : World} {K : PySem.W.Frag} {mg : Str → Option Value} {base : Heap} {f : Addr} {fd : FuncData}
theorem ok_law (D : Dfn K mg "law" s_law ["script"] f fd) (T : Bn mg) (cPool : Cal P w K mg base 1 "_law_pool" (spPool K) []) (cD : Cal P w K mg base 1 "_law_draw" spDraw []) (cP : Cal P w K mg base 16 "_law_part" (spPart K 7) [])
    (cLP : Cal P w K mg base 8 "_law_paths" (spSub K 7) []) (cSub : Cal P w K mg base 8 "subparts" (spSub K 7) []) (cS : Cal P w K mg base 8 "size_of" (spSize K 7) []) (cLS : Cal P w K mg base 8 "_law_size" (spSize K 7) [])
    (cAt : Cal P w K mg base 2 "part_at" (spAt K) []) (cR : Cal P w K mg base 9 "replaced" (spRep K 8) []) (cLR : Cal P w K mg base 9 "_law_changed" (spRep K 8) []) : FnOk P w K mg base CX0 17 f fd ["script"] (spLaw K) := by
  refine D.F.ok sc_law (fun vs H Q E h => ?_) (fun cdv A outer s H vs Q E hr h => ?_)
  · obtain ⟨a, ns, rfl, _⟩ := h
    rfl
  obtain ⟨sc, ns, rfl, hS, hn, q⟩ := h
  have hu64 := hr.units
  refine ⟨_, (pss_cons (ps_for PassesOwn.never rfl (pi_range1 rfl T.range (pa_cons (pe_callB (call_max2 rfl) (by rfl) T.max (by decide +kernel) (pa_cons pe_int (pa_cons (pe_callB (call_min2 rfl) (by rfl) T.min (by decide +kernel) (pa_cons (pe_callB (kcall_len_seq K) (by rfl) T.len PySem.boot_len (pa_cons (pv 0) pa_nil)) (pa_cons pe_int pa_nil))) pa_nil))) pa_nil)) (pg_name (i := 1) sc_law.nd rfl (Or.inl rfl))
      (pss_cons (ps_set (i := 2) sc_law.nd rfl (Or.inl rfl) (pe_c cPool hr (by omega) rfl (pa_cons (pv 0) (pa_cons (pv 1) pa_nil))))
      (pss_cons (ps_set (i := 3) sc_law.nd rfl (Or.inl rfl) (pe_c cP hr (by omega) rfl (pa_cons (pv 2) (pa_cons (pe_lstA (pa_cons pe_int pa_nil)) (pa_cons pe_int (pa_cons pe_int (pa_cons pe_bl pa_nil)))))))
      (pss_cons (ps_set (i := 4) sc_law.nd rfl (Or.inl rfl) (pe_c cP hr (by omega) rfl (pa_cons (pv 2) (pa_cons (pe_lstA (pa_cons pe_int pa_nil)) (pa_cons pe_int (pa_cons pe_int (pa_cons pe_bl pa_nil)))))))
      (pss_cons (ps_set (i := 5) sc_law.nd rfl (Or.inl rfl) (pe_c cLP hr (by omega) rfl (pa_cons (pv 3) pa_nil)))
      (pss_cons (ps_set (i := 6) sc_law.nd rfl (Or.inl rfl) (pe_c cSub hr (by omega) rfl (pa_cons (pv 3) pa_nil)))
      (pss_cons (ps_if (PW.pt (pw_or (pt_cmpR (kop_neD K rfl hu64) (pv 6) (pv 5) (nomark _)) (pw_or (pt_not (pt_val (pe_callB (kcall_isi K) (by rfl) T.isinstance (by decide +kernel) (pa_cons (pv 6) (pa_cons (pe_bltn (v := .ty "list") (by rfl) T.list (by decide +kernel) rfl) pa_nil))))) (pw_or1 (pt_cmpR op_ne (pe_c cS hr (by omega) rfl (pa_cons (pv 3) pa_nil)) (pe_c cLS hr (by omega) rfl (pa_cons (pv 3) pa_nil)) (nomark _))))))
        (pss_one (ps_ret pe_bl))
        pss_nil)
      (pss_cons (ps_if (pt_val (pe_callB (kcall_isi K) (by rfl) T.isinstance (by decide +kernel) (pa_cons (pe_c cS hr (by omega) rfl (pa_cons (pv 3) pa_nil)) (pa_cons (pe_bltn (v := .ty "bool") (by rfl) T.bool (by decide +kernel) rfl) pa_nil))))
        (pss_one (ps_ret pe_bl))
        pss_nil)
      (pss_cons (ps_expr (pe_bm PySem.F.plainAttrs_list PySem.F.slot_list_append PySem.F.type_list_append mt_append (pv 6) (pa_cons pe_non pa_nil)))
      (pss_cons (ps_if (pt_cmpR (kop_neD K rfl hu64) (pe_c cSub hr (by omega) rfl (pa_cons (pv 3) pa_nil)) (pv 5) (nomark _))
        (pss_one (ps_ret pe_bl))
        pss_nil)
      (pss_cons (ps_for PassesOwn.never rfl (kpi_list K (pv 5)) (kpg_tup K (n := 2) rfl (pgs_cons (pg_name (i := 7) sc_law.nd rfl (Or.inl rfl)) (pgs_cons (pg_name (i := 8) sc_law.nd rfl (Or.inl rfl)) pgs_nil)))
        (pss_cons (ps_if (PW.pt (pw_or (pt_cmpR (kop_neD K rfl hu64) (pe_c cAt hr (by omega) rfl (pa_cons (pv 3) (pa_cons (pv 7) pa_nil))) (pv 8) (nomark _)) (pw_or1 (pt_cmpR op_ne (pe_c cS hr (by omega) rfl (pa_cons (pv 8) pa_nil)) (pe_c cLS hr (by omega) rfl (pa_cons (pv 8) pa_nil)) (nomark _)))))
          (pss_one (ps_ret pe_bl))
          pss_nil)
        (pss_cons (ps_set (i := 9) sc_law.nd rfl (Or.inl rfl) (pe_c cR hr (by omega) rfl (pa_cons (pv 3) (pa_cons (pv 7) (pa_cons (pv 4) pa_nil)))))
        (pss_one (ps_if (PW.pt (pw_or (pt_cmpR (kop_neD K rfl hu64) (pv 9) (pe_c cLR hr (by omega) rfl (pa_cons (pv 3) (pa_cons (pv 7) (pa_cons (pv 4) pa_nil)))) (nomark _)) (pw_or1 (pt_not (pt_val (pe_callB (kcall_isi K) (by rfl) T.isinstance (by decide +kernel) (pa_cons (pv 9) (pa_cons (pe_bltn (v := .ty "tuple") (by rfl) T.tuple (by decide +kernel) rfl) pa_nil))))))))
          (pss_one (ps_ret pe_bl))
          pss_nil)))))
      (pss_cons (ps_set (i := 7) sc_law.nd rfl (Or.inl rfl) (pe_ix (kix_tup K) (pe_ix (kix_list K) (pv 5) (pe_c cD hr (by omega) rfl (pa_cons (pv 2) (pa_cons (pe_callB (kcall_len_seq K) (by rfl) T.len PySem.boot_len (pa_cons (pv 5) pa_nil)) pa_nil))) (fun _ _ => rfl)) pe_int (fun _ _ => rfl)))
      (pss_one (ps_if (pt_cmpR (kop_neD K rfl hu64) (pe_c cR hr (by omega) rfl (pa_cons (pv 3) (pa_cons (pv 7) (pa_cons (pe_c cAt hr (by omega) rfl (pa_cons (pv 3) (pa_cons (pv 7) pa_nil))) pa_nil)))) (pv 3) (nomark _))
        (pss_one (ps_ret pe_bl))
        pss_nil))))))))))))))
    (pss_one (ps_ret pe_bl))), ?_⟩
  simp only [and_assoc, tSeq, tAsg, tIfS, tTest, tOp, tVar, tC, rI0, rI, tCB, tCons, tNil, gName, tNext, tRet, tRetN, tLst, tTup, tDrop, tUn, rU, tB, tAnd, tOr, tNot, tAndV, tOrV, tNotV, tIf, tCall, tSl, tBM, tBM0, rAppend, rExtend, StX.tStar, gTup, wipe, tPart, tNoPart, L2.cxOf_K, L2.NewA, L2.iZipM, L2.tTupA, L2.tLstA, L2.rCatL, L2.rRepL, L2.rCatTA, L2.rSlLA, L2.rSlTA, L2.tFor_eq, L2.tLc_eq, iList, iTup, iRng1, iRng2, iRng3, iEnum, iZip, rSetL, tYes, rIn, L2.tMatch, L2.cIf, L2.cAny, L2.cNil, rIxL, rIxT, rEq, rNe, gSub, gNil, gCons, tPar, List.append_nil, L2.start, List.map_cons, List.map_nil, List.cons_append, List.nil_append, List.length_cons, List.length_nil, List.replicate, V.int.injEq, V.ref.injEq, V.bl.injEq, V.str.injEq, List.cons.injEq, Option.some.injEq, exists_eq_left, exists_eq_left', and_true, true_and, List.getElem?_cons_zero, List.getElem?_cons_succ, List.set_cons_zero, List.set_cons_succ, exists_and_left, exists_and_right, exists_eq', exists_eq, exists_eq_right, exists_eq_right', Nat.reduceAdd, Nat.reduceSub, decide_eq_true_eq, Bool.not_eq_true', decide_eq_false_iff_not, reduceCtorEq, false_and, and_false, or_false, false_or, exists_false, exists_const, Bool.false_eq_true, if_true, if_false]
  refine ⟨_, .inl hS, ?_⟩
  have hl : (ns.map V.int).length = ns.length := List.length_map _
  refine ⟨by split <;> split <;> omega, by split <;> split <;> omega, ?_⟩
  refine forB (walk_range (lo := 0)) (fun i σ H' => ∃ (o1 o2 o3 o4 o5 o6 o7 o8 o9 : Option V), σ = [some (.ref sc), o1, o2, o3, o4, o5, o6, o7, o8, o9] ∧ Same H H') ?_ ?_ ?_ ?_
  · exact ⟨none, none, none, none, none, none, none, none, none, rfl, Same.refl _⟩
  · intros; trivial
  · rintro i v σ H1 H1' hi ⟨o1, o2, o3, o4, o5, o6, o7, o8, o9, rfl, g1⟩ ⟨rfl, rfl⟩
    have hi' : i < 31 := by
      revert hi
      split <;> split <;> omega
    clear hi
    simp only [and_assoc, tSeq, tAsg, tIfS, tTest, tOp, tVar, tC, rI0, rI, tCB, tCons, tNil, gName, tNext, tRet, tRetN, tLst, tTup, tDrop, tUn, rU, tB, tAnd, tOr, tNot, tAndV, tOrV, tNotV, tIf, tCall, tSl, tBM, tBM0, rAppend, rExtend, StX.tStar, gTup, wipe, tPart, tNoPart, L2.cxOf_K, L2.NewA, L2.iZipM, L2.tTupA, L2.tLstA, L2.rCatL, L2.rRepL, L2.rCatTA, L2.rSlLA, L2.rSlTA, L2.tFor_eq, L2.tLc_eq, iList, iTup, iRng1, iRng2, iRng3, iEnum, iZip, rSetL, tYes, rIn, L2.tMatch, L2.cIf, L2.cAny, L2.cNil, rIxL, rIxT, rEq, rNe, gSub, gNil, gCons, tPar, List.append_nil, L2.start, List.map_cons, List.map_nil, List.cons_append, List.nil_append, List.length_cons, List.length_nil, List.replicate, V.int.injEq, V.ref.injEq, V.bl.injEq, V.str.injEq, List.cons.injEq, Option.some.injEq, exists_eq_left, exists_eq_left', and_true, true_and, List.getElem?_cons_zero, List.getElem?_cons_succ, List.set_cons_zero, List.set_cons_succ, exists_and_left, exists_and_right, exists_eq', exists_eq, exists_eq_right, exists_eq_right', Nat.reduceAdd, Nat.reduceSub, decide_eq_true_eq, Bool.not_eq_true', decide_eq_false_iff_not, reduceCtorEq, false_and, and_false, or_false, false_or, exists_false, exists_const, Bool.false_eq_true, if_true, if_false, Int.zero_add]
    refine ⟨sc, ns, i, rfl, g1.seq hS, by omega, by omega, fun a H2 x y ha g2 hx2 hok => ?_⟩
    have p2 : PoolAt H2 a := ⟨x, y, hx2, hok⟩
    have hHa : H a = none := g1.free ha
    refine ⟨szl (by decide), fun r H3 hr3 g3 hx3 => ?_⟩
    have har : a ≠ r := fun z => by subst z; rw [hx2] at hr3; cases hr3
    have hHr : H r = none := (g1.trans g2).free hr3
    refine ⟨a, r, 0, 0, false, rfl, p2.same g3, ⟨8, hx3⟩, har, by decide, by decide, fun v d H4 hdr b4 hDv => ?_⟩
    have s4 : Same H H4 := same_keep ((g1.trans g2).trans g3) b4.k (by simp [hHa, hHr])
    refine ⟨szl (by decide), fun r5 H5 hr5 g5 hx5 => ?_⟩
    have har5 : a ≠ r5 := (ne_pool b4.p hr5).symm
    have hHr5 : H r5 = none := s4.free hr5
    refine ⟨a, r5, 0, 0, false, rfl, b4.p.same g5, ⟨3, hx5⟩, har5, by decide, by decide, fun u o H6 hdo b6 hDu => ?_⟩
    have s6 : Same H H6 := same_keep (s4.trans g5) b6.k (by simp [hHa, hHr5])
    have hD6 : Dp K H6 v d := Dp.ts (b6.ts (b4.p.same g5) ⟨3, hx5⟩) hdr.p.noL (Dp.same g5 hDv)
    have hcd : cnt 7 d ≤ 100000 := Nat.le_trans hdr.c (by decide)
    have p6 := b6.p
    refine ⟨v, d, rfl, hdr.p, by decide, hcd, hD6, fun l7 xs H7 hl7 g7 hx7 hA7 => ?_⟩
    refine ⟨v, d, rfl, hdr.p, by decide, hcd, Dp.same g7 hD6, fun l8 ys H8 hl8 g8 hx8 hA8 => ?_⟩
    have hlay : Laid 23 (.list ((sub 7 d).map pr)) := Laid.list fun z hz => by
      obtain ⟨e, he, rfl⟩ := List.mem_map.mp hz
      refine Laid.tuple (m := 21) fun z hz => ?_
      simp only [List.mem_cons, List.not_mem_nil, or_false] at hz
      rcases hz with rfl | rfl
      · exact (Laid.tuple (m := 0) fun z hz => by obtain ⟨i, _, rfl⟩ := List.mem_map.mp hz; exact Laid.int).mono (by decide)
      · exact (sub_isP hdr.p e he).laid
    refine ⟨_, _, .ofL hx8 hA8, Dp.same g8 (.ofL hx7 hA7), hlay.shaped (by decide), hlay.shaped (by decide), _, rfl, ?_⟩
    refine iteN (by rw [hlay.refl]; simp) ?_
    refine isi_at (b := true) (tyL (SqL.of hx8)) (by decide +kernel) ⟨_, rfl, iteN (by simp) ?_⟩
    have hD8 : Dp K H8 v d := Dp.same (g7.trans g8) hD6
    refine ⟨v, d, rfl, hdr.p, hD8, fun H9 g9 => ⟨v, d, rfl, hdr.p, Dp.same g9 hD8, fun H10 g10 => ⟨?_, iteN (by simp) ?_⟩⟩⟩
    · cases sz 7 d <;> rfl
    have g810 := g9.trans g10
    refine ⟨v, d, rfl, hdr.p, Dp.same g810 hD8, fun H11 g11 => ?_⟩
    have g811 := g810.trans g11
    have notb : ∀ R : VK, R (.bl false) H11 → rIsi K [oV (sz 7 d), .ty "bool"] H11 R := by
      intro R hR
      cases sz 7 d with
      | none => exact isi_at (.base .non) (by decide +kernel) hR
      | some i => exact isi_at (.base (.int i)) (by decide +kernel) hR
    refine notb _ ⟨_, rfl, iteN (by simp) ⟨.inl ⟨rfl, _, SqL.of (g811 _ _ hx8)⟩, ?_⟩⟩
    have hx11 : H11 l8 = some (.lst ys) := g811 _ _ hx8
    have n78 : l7 ≠ l8 := fun z => by subst z; rw [hx7] at hl8; cases hl8
    have hHl8 : H l8 = none := (s6.trans g7).free hl8
    have s11 : Same H H11 := ((s6.trans g7).trans g8).trans g811
    have hys : ys.length ≤ 100000 := by rw [hA8.len, List.length_map]; exact hcd
    have ts : TSame H11 (upd H11 l8 (.lst (ys ++ [V.non]))) := ts_lst (TSame.refl _) hx11 _
    have s12 : Same H (upd H11 l8 (.lst (ys ++ [V.non]))) := same_mut s11 hHl8 _
    have hD12 : Dp K (upd H11 l8 (.lst (ys ++ [V.non]))) v d := Dp.ts ts hdr.p.noL (Dp.same g811 hD8)
    have hU12 : Dp K (upd H11 l8 (.lst (ys ++ [V.non]))) u o := Dp.ts ts hdo.p.noL (Dp.same ((g7.trans g8).trans g811) hDu)
    have hnl : noLs ((sub 7 d).map pr) = true := noLs_of fun z hz => by
      obtain ⟨e, he, rfl⟩ := List.mem_map.mp hz
      exact noL_pr (sub_isP hdr.p e he).noL
    have hA12 : DpAll K (upd H11 l8 (.lst (ys ++ [V.non]))) xs ((sub 7 d).map pr) := DpAll.ts ts hnl (DpAll.same (g8.trans g811) hA7)
    have hx12 : (upd H11 l8 (.lst (ys ++ [V.non]))) l7 = some (.lst xs) := by rw [upd_ne n78]; exact g811 _ _ (g8 _ _ hx7)
    have p12 : PoolAt (upd H11 l8 (.lst (ys ++ [V.non]))) a := by
      obtain ⟨x, y, e, ho⟩ := p6
      have n8a : l8 ≠ a := fun z => by subst z; rw [g7 _ _ e] at hl8; cases hl8
      exact ⟨x, y, by rw [upd_ne (Ne.symm n8a)]; exact g811 _ _ (g8 _ _ (g7 _ _ e)), ho⟩
    refine ⟨l8, rfl, ys, hx11, szlt (by omega), ?_⟩
    generalize upd H11 l8 (.lst (ys ++ [V.non])) = H12 at ts s12 hD12 hU12 hA12 hx12 p12
    refine ⟨v, d, rfl, hdr.p, by decide, hcd, hD12, fun l13 zs H13 hl13 g13 hx13 hA13 => ?_⟩
    refine ⟨_, _, .ofL hx13 hA13, Dp.same g13 (.ofL hx12 hA12), hlay.shaped (by decide), hlay.shaped (by decide), _, rfl, ?_⟩
    refine iteN (by rw [hlay.refl]; simp) ⟨l7, rfl, ⟨_, SqL.of (g13 _ _ hx12)⟩, ?_⟩
    have hD13 := Dp.same g13 hD12
    have hU13 := Dp.same g13 hU12
    have hA13' := DpAll.same g13 hA12
    have hx13' := g13 _ _ hx12
    have hxl : xs.length = (sub 7 d).length := by rw [hA12.len, List.length_map]
    refine forB (walk_list (K := K) (a := l7) (xs := xs)) (fun j σ H' => ∃ (o7 o8 o9 : Option V), σ = [some (.ref sc), some (.int i), some (.ref a), some v, some u, some (.ref l7), some (.ref l8), o7, o8, o9] ∧ Same H13 H') ?_ ?_ ?_ ?_
    · exact ⟨_, _, _, rfl, Same.refl _⟩
    · rintro j σ H' _ ⟨_, _, _, _, g⟩
      exact g.seq (SqL.of hx13')
    · rintro j z σ H14 H14' hj ⟨o7, o8, o9, rfl, g14⟩ ⟨rfl, hz⟩
      obtain ⟨T', t, ps, b, rfl, hS1, hS2, hDb, hps, hjl⟩ := pr_at hA13' hz
      have eg : (sub 7 d).getD j ([], .none) = (sub 7 d)[j] := by rw [List.getD_eq_getElem?_getD, List.getElem?_eq_getElem hjl]; rfl
      rw [eg] at hDb hps
      have hmem := List.getElem_mem hjl
      obtain ⟨hvp, hpa⟩ := sub_at _ hmem
      have hpb := sub_isP hdr.p _ hmem
      have hpl : ps.length ≤ 7 := by
        have := sub_path _ hmem
        rw [← hps]
        omega
      rw [hps] at hvp hpa
      have hbl : Laid 21 ((sub 7 d)[j]).2 := hpb.laid
      simp only [and_assoc, tSeq, tAsg, tIfS, tTest, tOp, tVar, tC, rI0, rI, tCB, tCons, tNil, gName, tNext, tRet, tRetN, tLst, tTup, tDrop, tUn, rU, tB, tAnd, tOr, tNot, tAndV, tOrV, tNotV, tIf, tCall, tSl, tBM, tBM0, rAppend, rExtend, StX.tStar, gTup, wipe, tPart, tNoPart, L2.cxOf_K, L2.NewA, L2.iZipM, L2.tTupA, L2.tLstA, L2.rCatL, L2.rRepL, L2.rCatTA, L2.rSlLA, L2.rSlTA, L2.tFor_eq, L2.tLc_eq, iList, iTup, iRng1, iRng2, iRng3, iEnum, iZip, rSetL, tYes, rIn, L2.tMatch, L2.cIf, L2.cAny, L2.cNil, rIxL, rIxT, rEq, rNe, gSub, gNil, gCons, tPar, List.append_nil, L2.start, List.map_cons, List.map_nil, List.cons_append, List.nil_append, List.length_cons, List.length_nil, List.replicate, V.int.injEq, V.ref.injEq, V.bl.injEq, V.str.injEq, List.cons.injEq, Option.some.injEq, exists_eq_left, exists_eq_left', and_true, true_and, List.getElem?_cons_zero, List.getElem?_cons_succ, List.set_cons_zero, List.set_cons_succ, exists_and_left, exists_and_right, exists_eq', exists_eq, exists_eq_right, exists_eq_right', Nat.reduceAdd, Nat.reduceSub, decide_eq_true_eq, Bool.not_eq_true', decide_eq_false_iff_not, reduceCtorEq, false_and, and_false, or_false, false_or, exists_false, exists_const, Bool.false_eq_true, if_true, if_false]
      refine ⟨_, SqT.same g14 hS1, rfl, _, _, rfl, _, _, rfl, rfl, ?_⟩
      refine ⟨v, d, 7, t, ps, rfl, hdr.p, SqT.same g14 hS2, hvp, Dp.same g14 hD13, fun r' H15 g15 hr' => ?_⟩
      rw [hpa] at hr'
      have g1415 := g14.trans g15
      refine ⟨_, _, hr', Dp.same g1415 hDb, hbl.shaped (by decide), hbl.shaped (by decide), _, rfl, ?_⟩
      refine iteN (by rw [hbl.refl]; simp) ?_
      refine ⟨b, _, rfl, hpb, Dp.same g1415 hDb, fun H16 g16 => ⟨b, _, rfl, hpb, Dp.same (g1415.trans g16) hDb, fun H17 g17 => ⟨?_, iteN (by simp) ?_⟩⟩⟩
      · cases sz 7 ((sub 7 d)[j]).2 <;> rfl
      have g1417 := (g1415.trans g16).trans g17
      have hrl : Laid 42 (repl d ps o) := (repl_isP hdo.p hdr.p hvp).laid
      refine ⟨v, u, d, o, 7, 7, t, ps, rfl, hdr.p, hdo.p, SqT.same g1417 hS2, by omega, by decide, hvp, Dp.same g1417 hD13, Dp.same g1417 hU13, fun md H18 g18 hmd => ?_⟩
      have g1418 := g1417.trans g18
      refine ⟨v, u, d, o, 7, 7, t, ps, rfl, hdr.p, hdo.p, SqT.same g1418 hS2, by omega, by decide, hvp, Dp.same g1418 hD13, Dp.same g1418 hU13, fun md2 H19 g19 hmd2 => ?_⟩
      refine ⟨_, _, Dp.same g19 hmd, hmd2, hrl.shaped (by decide), hrl.shaped (by decide), _, rfl, iteN (by rw [hrl.refl]; simp) ?_⟩
      obtain ⟨k', fs', hsh, _⟩ := (repl_isP hdo.p hdr.p hvp).shape
      rw [hsh] at hmd
      obtain ⟨am, xm, rfl, hSm, _⟩ := hmd.tupI
      exact isi_at (b := true) (tyT (SqT.same g19 hSm)) (by decide +kernel) ⟨_, rfl, iteN (by simp) (g1418.trans g19)⟩
    · rintro σ H14 ⟨o7, o8, o9, rfl, g14⟩
      simp only [and_assoc, tSeq, tAsg, tIfS, tTest, tOp, tVar, tC, rI0, rI, tCB, tCons, tNil, gName, tNext, tRet, tRetN, tLst, tTup, tDrop, tUn, rU, tB, tAnd, tOr, tNot, tAndV, tOrV, tNotV, tIf, tCall, tSl, tBM, tBM0, rAppend, rExtend, StX.tStar, gTup, wipe, tPart, tNoPart, L2.cxOf_K, L2.NewA, L2.iZipM, L2.tTupA, L2.tLstA, L2.rCatL, L2.rRepL, L2.rCatTA, L2.rSlLA, L2.rSlTA, L2.tFor_eq, L2.tLc_eq, iList, iTup, iRng1, iRng2, iRng3, iEnum, iZip, rSetL, tYes, rIn, L2.tMatch, L2.cIf, L2.cAny, L2.cNil, rIxL, rIxT, rEq, rNe, gSub, gNil, gCons, tPar, List.append_nil, L2.start, List.map_cons, List.map_nil, List.cons_append, List.nil_append, List.length_cons, List.length_nil, List.replicate, V.int.injEq, V.ref.injEq, V.bl.injEq, V.str.injEq, List.cons.injEq, Option.some.injEq, exists_eq_left, exists_eq_left', and_true, true_and, List.getElem?_cons_zero, List.getElem?_cons_succ, List.set_cons_zero, List.set_cons_succ, exists_and_left, exists_and_right, exists_eq', exists_eq, exists_eq_right, exists_eq_right', Nat.reduceAdd, Nat.reduceSub, decide_eq_true_eq, Bool.not_eq_true', decide_eq_false_iff_not, reduceCtorEq, false_and, and_false, or_false, false_or, exists_false, exists_const, Bool.false_eq_true, if_true, if_false]
      refine ⟨_, .inl (g14.seq (SqL.of hx13')), ?_⟩
      have hpos : 0 < xs.length := by rw [hxl]; exact Nat.succ_pos _
      have hxs : xs.length ≤ 100000 := by rw [hxl]; exact hcd
      refine ⟨a, _, rfl, (p12.same g13).same g14, by omega, by omega, fun jj H15 j0 j1 e15 p15 => ?_⟩
      have n7a : l7 ≠ a := ne_pool p6 hl7
      have ts15 : TSame H14 H15 := ((p12.same g13).same g14).ts e15
      have hx15 : H15 l7 = some (.lst xs) := e15 _ _ (by simp [n7a]) (g14 _ _ hx13')
      have hjj : jj.toNat < xs.length := by omega
      have hA15 : DpAll K H15 xs ((sub 7 d).map pr) := DpAll.ts ts15 hnl (DpAll.same g14 hA13')
      obtain ⟨T', t, ps, b, hTb, hS1, hS2, hDb, hps, hjl⟩ := pr_at hA15 (List.getElem?_eq_getElem hjj)
      have eg : (sub 7 d).getD jj.toNat ([], .none) = (sub 7 d)[jj.toNat] := by rw [List.getD_eq_getElem?_getD, List.getElem?_eq_getElem hjl]; rfl
      rw [eg] at hDb hps
      have hmem := List.getElem_mem hjl
      obtain ⟨hvp, hpa⟩ := sub_at _ hmem
      have hpl : ps.length ≤ 7 := by
        have := sub_path _ hmem
        rw [← hps]
        omega
      rw [hps] at hvp hpa
      have hD15 : Dp K H15 v d := Dp.ts ts15 hdr.p.noL (Dp.same g14 hD13)
      have s15 : Same H H15 := same_keep ((s12.trans g13).trans g14) e15 (by simp [hHa])
      refine ⟨_, jj, rfl, SqL.of hx15, _, at_of (j := jj.toNat) (by omega) (List.getElem?_eq_getElem hjj), T', hTb, _, hS1, _, at0, ?_⟩
      refine ⟨v, d, 7, t, ps, rfl, hdr.p, hS2, hvp, hD15, fun r' H16 g16 hr' => ?_⟩
      have hip := partAt_isP hdr.p hvp
      refine ⟨v, r', d, _, 7, 7, t, ps, rfl, hdr.p, hip, SqT.same g16 hS2, by omega, by decide, hvp, Dp.same g16 hD15, hr', fun md H17 g17 hmd => ?_⟩
      rw [repl_same hdr.p hvp] at hmd
      have hdl : Laid 21 d := hdr.p.laid
      refine ⟨_, _, hmd, Dp.same (g16.trans g17) hD15, hdl.shaped (by decide), hdl.shaped (by decide), _, rfl, iteN (by rw [hdl.refl]; simp) ?_⟩
      exact (s15.trans g16).trans g17
  · rintro σ H' ⟨o1, o2, o3, o4, o5, o6, o7, o8, o9, rfl, g1⟩
    simp only [and_assoc, tSeq, tAsg, tIfS, tTest, tOp, tVar, tC, rI0, rI, tCB, tCons, tNil, gName, tNext, tRet, tRetN, tLst, tTup, tDrop, tUn, rU, tB, tAnd, tOr, tNot, tAndV, tOrV, tNotV, tIf, tCall, tSl, tBM, tBM0, rAppend, rExtend, StX.tStar, gTup, wipe, tPart, tNoPart, L2.cxOf_K, L2.NewA, L2.iZipM, L2.tTupA, L2.tLstA, L2.rCatL, L2.rRepL, L2.rCatTA, L2.rSlLA, L2.rSlTA, L2.tFor_eq, L2.tLc_eq, iList, iTup, iRng1, iRng2, iRng3, iEnum, iZip, rSetL, tYes, rIn, L2.tMatch, L2.cIf, L2.cAny, L2.cNil, rIxL, rIxT, rEq, rNe, gSub, gNil, gCons, tPar, List.append_nil, L2.start, List.map_cons, List.map_nil, List.cons_append, List.nil_append, List.length_cons, List.length_nil, List.replicate, V.int.injEq, V.ref.injEq, V.bl.injEq, V.str.injEq, List.cons.injEq, Option.some.injEq, exists_eq_left, exists_eq_left', and_true, true_and, List.getElem?_cons_zero, List.getElem?_cons_succ, List.set_cons_zero, List.set_cons_succ, exists_and_left, exists_and_right, exists_eq', exists_eq, exists_eq_right, exists_eq_right', Nat.reduceAdd, Nat.reduceSub, decide_eq_true_eq, Bool.not_eq_true', decide_eq_false_iff_not, reduceCtorEq, false_and, and_false, or_false, false_or, exists_false, exists_const, Bool.false_eq_true, if_true, if_false]
    exact q H'
end

end W

set_option Elab.async false
set_option linter.all false
set_option maxRecDepth 100000
set_option maxHeartbeats 4000000
namespace W
open PySem L2
open C8 (Cal pe_c pss_cut tCut)
/-! ### all defs together -/
section
variable {P : Program} {w : World} {K : PySem.W.Frag} {mg : Str → Option Value} {base : Heap}
theorem size_all {f : Addr} {fd : FuncData} (D : Dfn K mg "size_of" s_size ["part"] f fd) (T : Bn mg) (cC : Cal P w K mg base 1 "children" (spKids K) []) : ∀ n, Cal P w K mg base (n + 1) "size_of" (spSize K n) []
  | 0 => D.never fun vs H Q E ⟨_, _, _, h, _⟩ => nomatch h
  | n + 1 => ok_size D T cC (size_all D T cC n)
theorem lsize_all {f : Addr} {fd : FuncData} (D : Dfn K mg "_law_size" s_lsize ["part"] f fd) (T : Bn mg) (cC : Cal P w K mg base 1 "_law_children" (spKids K) []) : ∀ n, Cal P w K mg base (n + 1) "_law_size" (spSize K n) []
  | 0 => D.never fun vs H Q E ⟨_, _, _, h, _⟩ => nomatch h
  | n + 1 => ok_lsize D T cC (lsize_all D T cC n)
theorem sub_all {f : Addr} {fd : FuncData} (D : Dfn K mg "subparts" s_sub ["part"] f fd) (T : Bn mg) (cC : Cal P w K mg base 1 "children" (spKids K) []) : ∀ n, Cal P w K mg base (n + 1) "subparts" (spSub K n) []
  | 0 => D.never fun vs H Q E ⟨_, _, _, h, _⟩ => nomatch h
  | n + 1 => ok_sub D T cC (sub_all D T cC n)
theorem lsub_all {f : Addr} {fd : FuncData} (D : Dfn K mg "_law_paths" s_lsub ["part"] f fd) (T : Bn mg) (cC : Cal P w K mg base 1 "_law_children" (spKids K) []) : ∀ n, Cal P w K mg base (n + 1) "_law_paths" (spSub K n) []
  | 0 => D.never fun vs H Q E ⟨_, _, _, h, _⟩ => nomatch h
  | n + 1 => ok_lsub D T cC (lsub_all D T cC n)
theorem part_all {f fL fO fC fW : Addr} {fd fdL fdO fdC fdW : FuncData} (D : Dfn K mg "_law_part" s_part ["pool", "room", "depth", "limits", "told"] f fd) (DL : Dfn K mg "_law_leaf" s_leaf ["pool", "how", "told"] fL fdL) (DO : Dfn K mg "_law_options" s_options ["pool", "room", "depth", "limits", "told"] fO fdO)
    (DC : Dfn K mg "_law_counted" s_counted ["pool", "how", "room", "depth", "limits", "told"] fC fdC) (DW : Dfn K mg "_law_within" s_within ["pool", "how", "room", "depth", "limits"] fW fdW) (T : Bn mg) (cD : Cal P w K mg base 1 "_law_draw" spDraw [])
    (cS : ∀ n, Cal P w K mg base (n + 1) "_law_size" (spSize K n) []) : ∀ m, m ≤ 16 → Cal P w K mg base (2 * m + 2) "_law_part" (spPart K m) []
  | 0, _ => D.never fun vs H Q E ⟨_, _, _, _, _, _, _, _, _, h0, h1, _⟩ => by simp at h1; omega
  | m + 1, hm => by
    have cP := part_all D DL DO DC DW T cD cS m (by omega)
    exact ok_part D T cD (ok_leaf DL T cD) (ok_options DO T cD cP (by omega)) (ok_counted DC T cD (cS m) cP) (ok_within DW T cD cP) cP
theorem rep_all {f : Addr} {fd : FuncData} (D : Dfn K mg "replaced" s_rep ["part", "path", "other"] f fd) (T : Bn mg) (cC : Cal P w K mg base 1 "children" (spKids K) []) (cW : Cal P w K mg base 1 "with_children" (spWk K) []) : ∀ m, Cal P w K mg base (m + 1) "replaced" (spRep K m) []
  | 0 => D.never fun vs H Q E ⟨_, _, _, _, _, _, _, _, _, _, _, _, h, _⟩ => absurd h (Nat.not_lt_zero _)
  | m + 1 => ok_rep D T cC cW (rep_all D T cC cW m)
theorem lrep_all {f : Addr} {fd : FuncData} (D : Dfn K mg "_law_changed" s_lrep ["part", "path", "other"] f fd) (T : Bn mg) (cC : Cal P w K mg base 1 "_law_children" (spKids K) []) : ∀ m, Cal P w K mg base (m + 1) "_law_changed" (spRep K m) []
  | 0 => D.never fun vs H Q E ⟨_, _, _, _, _, _, _, _, _, _, _, _, h, _⟩ => absurd h (Nat.not_lt_zero _)
  | m + 1 => ok_lrep D T cC (lrep_all D T cC m)
end

theorem all_mk {l : PySem.W.OpenLaw} {w : World} {K : PySem.W.Frag} {h : Heap} {mg : Str → Option Value} {fa f0 f1 f2 f3 f4 f5 f6 f7 f8 f9 f10 f11 f12 f13 f14 f15 f16 f17 : Addr} (X : K.In h) (G : h.Ns mainGlobals mg) (hfa : mg "law" = some (.ref fa))
    {od0 an0 od1 an1 od2 an2 od3 an3 od4 an4 od5 an5 od6 an6 od7 an7 od8 an8 od9 an9 od10 an10 od11 an11 od12 an12 od13 an13 od14 an14 od15 an15 od16 an16 od17 an17 : Option Addr} {sl0 sl1 sl2 sl3 sl4 sl5 sl6 sl7 sl8 sl9 sl10 sl11 sl12 sl13 sl14 sl15 sl16 sl17 : Array (Option Value)} {oc0 kV0 dc0 pm0 cd0 ct0 oc1 kV1 dc1 pm1 cd1 ct1 oc2 kV2 dc2 pm2 cd2 ct2 oc3 kV3 dc3 pm3 cd3 ct3 oc4 kV4 dc4 pm4 cd4 ct4 oc5 kV5 dc5 pm5 cd5 ct5 oc6 kV6 dc6 pm6 cd6 ct6 oc7 kV7 dc7 pm7 cd7 ct7 oc8 kV8 dc8 pm8 cd8 ct8 oc9 kV9 dc9 pm9 cd9 ct9 oc10 kV10 dc10 pm10 cd10 ct10 oc11 kV11 dc11 pm11 cd11 ct11 oc12 kV12 dc12 pm12 cd12 ct12 oc13 kV13 dc13 pm13 cd13 ct13 oc14 kV14 dc14 pm14 cd14 ct14 oc15 kV15 dc15 pm15 cd15 ct15 oc16 kV16 dc16 pm16 cd16 ct16 oc17 kV17 dc17 pm17 cd17 ct17 : Value}
    (a0 : PySem.W.nsIn K mainGlobals "_law_pool" = some (some (.ref f0))) (l0 : K.lookup f0 = some ⟨oc0, od0, .func (PySem.W.fnOf "_law_pool" "_law_pool" (defArgs s_pool) (defBody s_pool) (defScope s_pool) .none kV0 dc0 pm0 an0 cd0 ct0), sl0⟩) (c0 : PySem.W.codeIn K cd0 "_law_pool" = true) (k0 : PySem.W.keepIn K (.ref f0) = true)
    (a1 : PySem.W.nsIn K mainGlobals "_law_draw" = some (some (.ref f1))) (l1 : K.lookup f1 = some ⟨oc1, od1, .func (PySem.W.fnOf "_law_draw" "_law_draw" (defArgs s_draw) (defBody s_draw) (defScope s_draw) .none kV1 dc1 pm1 an1 cd1 ct1), sl1⟩) (c1 : PySem.W.codeIn K cd1 "_law_draw" = true) (k1 : PySem.W.keepIn K (.ref f1) = true)
    (a2 : PySem.W.nsIn K mainGlobals "children" = some (some (.ref f2))) (l2 : K.lookup f2 = some ⟨oc2, od2, .func (PySem.W.fnOf "children" "children" (defArgs s_children) (defBody s_children) (defScope s_children) .none kV2 dc2 pm2 an2 cd2 ct2), sl2⟩) (c2 : PySem.W.codeIn K cd2 "children" = true) (k2 : PySem.W.keepIn K (.ref f2) = true)
    (a3 : PySem.W.nsIn K mainGlobals "_law_children" = some (some (.ref f3))) (l3 : K.lookup f3 = some ⟨oc3, od3, .func (PySem.W.fnOf "_law_children" "_law_children" (defArgs s_lchildren) (defBody s_lchildren) (defScope s_lchildren) .none kV3 dc3 pm3 an3 cd3 ct3), sl3⟩) (c3 : PySem.W.codeIn K cd3 "_law_children" = true) (k3 : PySem.W.keepIn K (.ref f3) = true)
    (a4 : PySem.W.nsIn K mainGlobals "size_of" = some (some (.ref f4))) (l4 : K.lookup f4 = some ⟨oc4, od4, .func (PySem.W.fnOf "size_of" "size_of" (defArgs s_size) (defBody s_size) (defScope s_size) .none kV4 dc4 pm4 an4 cd4 ct4), sl4⟩) (c4 : PySem.W.codeIn K cd4 "size_of" = true) (k4 : PySem.W.keepIn K (.ref f4) = true)
    (a5 : PySem.W.nsIn K mainGlobals "_law_size" = some (some (.ref f5))) (l5 : K.lookup f5 = some ⟨oc5, od5, .func (PySem.W.fnOf "_law_size" "_law_size" (defArgs s_lsize) (defBody s_lsize) (defScope s_lsize) .none kV5 dc5 pm5 an5 cd5 ct5), sl5⟩) (c5 : PySem.W.codeIn K cd5 "_law_size" = true) (k5 : PySem.W.keepIn K (.ref f5) = true)
    (a6 : PySem.W.nsIn K mainGlobals "subparts" = some (some (.ref f6))) (l6 : K.lookup f6 = some ⟨oc6, od6, .func (PySem.W.fnOf "subparts" "subparts" (defArgs s_sub) (defBody s_sub) (defScope s_sub) .none kV6 dc6 pm6 an6 cd6 ct6), sl6⟩) (c6 : PySem.W.codeIn K cd6 "subparts" = true) (k6 : PySem.W.keepIn K (.ref f6) = true)
    (a7 : PySem.W.nsIn K mainGlobals "_law_paths" = some (some (.ref f7))) (l7 : K.lookup f7 = some ⟨oc7, od7, .func (PySem.W.fnOf "_law_paths" "_law_paths" (defArgs s_lsub) (defBody s_lsub) (defScope s_lsub) .none kV7 dc7 pm7 an7 cd7 ct7), sl7⟩) (c7 : PySem.W.codeIn K cd7 "_law_paths" = true) (k7 : PySem.W.keepIn K (.ref f7) = true)
    (a8 : PySem.W.nsIn K mainGlobals "part_at" = some (some (.ref f8))) (l8 : K.lookup f8 = some ⟨oc8, od8, .func (PySem.W.fnOf "part_at" "part_at" (defArgs s_at) (defBody s_at) (defScope s_at) .none kV8 dc8 pm8 an8 cd8 ct8), sl8⟩) (c8 : PySem.W.codeIn K cd8 "part_at" = true) (k8 : PySem.W.keepIn K (.ref f8) = true)
    (a9 : PySem.W.nsIn K mainGlobals "with_children" = some (some (.ref f9))) (l9 : K.lookup f9 = some ⟨oc9, od9, .func (PySem.W.fnOf "with_children" "with_children" (defArgs s_wk) (defBody s_wk) (defScope s_wk) .none kV9 dc9 pm9 an9 cd9 ct9), sl9⟩) (c9 : PySem.W.codeIn K cd9 "with_children" = true) (k9 : PySem.W.keepIn K (.ref f9) = true)
    (a10 : PySem.W.nsIn K mainGlobals "replaced" = some (some (.ref f10))) (l10 : K.lookup f10 = some ⟨oc10, od10, .func (PySem.W.fnOf "replaced" "replaced" (defArgs s_rep) (defBody s_rep) (defScope s_rep) .none kV10 dc10 pm10 an10 cd10 ct10), sl10⟩) (c10 : PySem.W.codeIn K cd10 "replaced" = true) (k10 : PySem.W.keepIn K (.ref f10) = true)
    (a11 : PySem.W.nsIn K mainGlobals "_law_changed" = some (some (.ref f11))) (l11 : K.lookup f11 = some ⟨oc11, od11, .func (PySem.W.fnOf "_law_changed" "_law_changed" (defArgs s_lrep) (defBody s_lrep) (defScope s_lrep) .none kV11 dc11 pm11 an11 cd11 ct11), sl11⟩) (c11 : PySem.W.codeIn K cd11 "_law_changed" = true) (k11 : PySem.W.keepIn K (.ref f11) = true)
    (a12 : PySem.W.nsIn K mainGlobals "_law_leaf" = some (some (.ref f12))) (l12 : K.lookup f12 = some ⟨oc12, od12, .func (PySem.W.fnOf "_law_leaf" "_law_leaf" (defArgs s_leaf) (defBody s_leaf) (defScope s_leaf) .none kV12 dc12 pm12 an12 cd12 ct12), sl12⟩) (c12 : PySem.W.codeIn K cd12 "_law_leaf" = true) (k12 : PySem.W.keepIn K (.ref f12) = true)
    (a13 : PySem.W.nsIn K mainGlobals "_law_options" = some (some (.ref f13))) (l13 : K.lookup f13 = some ⟨oc13, od13, .func (PySem.W.fnOf "_law_options" "_law_options" (defArgs s_options) (defBody s_options) (defScope s_options) .none kV13 dc13 pm13 an13 cd13 ct13), sl13⟩) (c13 : PySem.W.codeIn K cd13 "_law_options" = true) (k13 : PySem.W.keepIn K (.ref f13) = true)
    (a14 : PySem.W.nsIn K mainGlobals "_law_counted" = some (some (.ref f14))) (l14 : K.lookup f14 = some ⟨oc14, od14, .func (PySem.W.fnOf "_law_counted" "_law_counted" (defArgs s_counted) (defBody s_counted) (defScope s_counted) .none kV14 dc14 pm14 an14 cd14 ct14), sl14⟩) (c14 : PySem.W.codeIn K cd14 "_law_counted" = true) (k14 : PySem.W.keepIn K (.ref f14) = true)
    (a15 : PySem.W.nsIn K mainGlobals "_law_within" = some (some (.ref f15))) (l15 : K.lookup f15 = some ⟨oc15, od15, .func (PySem.W.fnOf "_law_within" "_law_within" (defArgs s_within) (defBody s_within) (defScope s_within) .none kV15 dc15 pm15 an15 cd15 ct15), sl15⟩) (c15 : PySem.W.codeIn K cd15 "_law_within" = true) (k15 : PySem.W.keepIn K (.ref f15) = true)
    (a16 : PySem.W.nsIn K mainGlobals "_law_part" = some (some (.ref f16))) (l16 : K.lookup f16 = some ⟨oc16, od16, .func (PySem.W.fnOf "_law_part" "_law_part" (defArgs s_part) (defBody s_part) (defScope s_part) .none kV16 dc16 pm16 an16 cd16 ct16), sl16⟩) (c16 : PySem.W.codeIn K cd16 "_law_part" = true) (k16 : PySem.W.keepIn K (.ref f16) = true)
    (a17 : PySem.W.nsIn K mainGlobals "law" = some (some (.ref f17))) (l17 : K.lookup f17 = some ⟨oc17, od17, .func (PySem.W.fnOf "law" "law" (defArgs s_law) (defBody s_law) (defScope s_law) .none kV17 dc17 pm17 an17 cd17 ct17), sl17⟩) (c17 : PySem.W.codeIn K cd17 "law" = true) (k17 : PySem.W.keepIn K (.ref f17) = true)
    (z_len : PySem.W.nsIn K mainGlobals "len" = some none)
    (z_abs : PySem.W.nsIn K mainGlobals "abs" = some none)
    (z_int : PySem.W.nsIn K mainGlobals "int" = some none)
    (z_range : PySem.W.nsIn K mainGlobals "range" = some none)
    (z_list : PySem.W.nsIn K mainGlobals "list" = some none)
    (z_tuple : PySem.W.nsIn K mainGlobals "tuple" = some none)
    (z_sum : PySem.W.nsIn K mainGlobals "sum" = some none)
    (z_isinstance : PySem.W.nsIn K mainGlobals "isinstance" = some none)
    (z_enumerate : PySem.W.nsIn K mainGlobals "enumerate" = some none)
    (z_zip : PySem.W.nsIn K mainGlobals "zip" = some none)
    (z_max : PySem.W.nsIn K mainGlobals "max" = some none)
    (z_min : PySem.W.nsIn K mainGlobals "min" = some none)
    (z_bool : PySem.W.nsIn K mainGlobals "bool" = some none)
    : ∃ fd : FuncData, (∀ (s : Shared) (v : Value), BindsTo s fd ⟨[v], []⟩ [("script", v)]) ∧ ∀ base : Heap, K.In base → base.Ns mainGlobals mg → FnOk l.prog w K mg base CX0 17 fa fd ["script"] (spLaw K) := by
  have e := hfa.symm.trans (PySem.W.mg_of X G a17)
  cases e
  have T : Bn mg := ⟨PySem.W.mg_none_of X G z_len, PySem.W.mg_none_of X G z_abs, PySem.W.mg_none_of X G z_int, PySem.W.mg_none_of X G z_range, PySem.W.mg_none_of X G z_list, PySem.W.mg_none_of X G z_tuple, PySem.W.mg_none_of X G z_sum, PySem.W.mg_none_of X G z_isinstance, PySem.W.mg_none_of X G z_enumerate, PySem.W.mg_none_of X G z_zip, PySem.W.mg_none_of X G z_max, PySem.W.mg_none_of X G z_min, PySem.W.mg_none_of X G z_bool⟩
  have F0 := fun_mk (st := s_pool) l0 c0 k0
  have D_pool : Dfn K mg "_law_pool" s_pool ["script", "k"] _ _ := ⟨F0, PySem.W.mg_of X G a0, F0.binds (ps := ["script", "k"]) fun _ _ _ _ _ _ us hl => match us, hl with | [_, _], _ => rfl⟩
  have F1 := fun_mk (st := s_draw) l1 c1 k1
  have D_draw : Dfn K mg "_law_draw" s_draw ["pool", "count"] _ _ := ⟨F1, PySem.W.mg_of X G a1, F1.binds (ps := ["pool", "count"]) fun _ _ _ _ _ _ us hl => match us, hl with | [_, _], _ => rfl⟩
  have F2 := fun_mk (st := s_children) l2 c2 k2
  have D_children : Dfn K mg "children" s_children ["part"] _ _ := ⟨F2, PySem.W.mg_of X G a2, F2.binds (ps := ["part"]) fun _ _ _ _ _ _ us hl => match us, hl with | [_], _ => rfl⟩
  have F3 := fun_mk (st := s_lchildren) l3 c3 k3
  have D_lchildren : Dfn K mg "_law_children" s_lchildren ["part"] _ _ := ⟨F3, PySem.W.mg_of X G a3, F3.binds (ps := ["part"]) fun _ _ _ _ _ _ us hl => match us, hl with | [_], _ => rfl⟩
  have F4 := fun_mk (st := s_size) l4 c4 k4
  have D_size : Dfn K mg "size_of" s_size ["part"] _ _ := ⟨F4, PySem.W.mg_of X G a4, F4.binds (ps := ["part"]) fun _ _ _ _ _ _ us hl => match us, hl with | [_], _ => rfl⟩
  have F5 := fun_mk (st := s_lsize) l5 c5 k5
  have D_lsize : Dfn K mg "_law_size" s_lsize ["part"] _ _ := ⟨F5, PySem.W.mg_of X G a5, F5.binds (ps := ["part"]) fun _ _ _ _ _ _ us hl => match us, hl with | [_], _ => rfl⟩
  have F6 := fun_mk (st := s_sub) l6 c6 k6
  have D_sub : Dfn K mg "subparts" s_sub ["part"] _ _ := ⟨F6, PySem.W.mg_of X G a6, F6.binds (ps := ["part"]) fun _ _ _ _ _ _ us hl => match us, hl with | [_], _ => rfl⟩
  have F7 := fun_mk (st := s_lsub) l7 c7 k7
  have D_lsub : Dfn K mg "_law_paths" s_lsub ["part"] _ _ := ⟨F7, PySem.W.mg_of X G a7, F7.binds (ps := ["part"]) fun _ _ _ _ _ _ us hl => match us, hl with | [_], _ => rfl⟩
  have F8 := fun_mk (st := s_at) l8 c8 k8
  have D_at : Dfn K mg "part_at" s_at ["part", "path"] _ _ := ⟨F8, PySem.W.mg_of X G a8, F8.binds (ps := ["part", "path"]) fun _ _ _ _ _ _ us hl => match us, hl with | [_, _], _ => rfl⟩
  have F9 := fun_mk (st := s_wk) l9 c9 k9
  have D_wk : Dfn K mg "with_children" s_wk ["part", "inner"] _ _ := ⟨F9, PySem.W.mg_of X G a9, F9.binds (ps := ["part", "inner"]) fun _ _ _ _ _ _ us hl => match us, hl with | [_, _], _ => rfl⟩
  have F10 := fun_mk (st := s_rep) l10 c10 k10
  have D_rep : Dfn K mg "replaced" s_rep ["part", "path", "other"] _ _ := ⟨F10, PySem.W.mg_of X G a10, F10.binds (ps := ["part", "path", "other"]) fun _ _ _ _ _ _ us hl => match us, hl with | [_, _, _], _ => rfl⟩
  have F11 := fun_mk (st := s_lrep) l11 c11 k11
  have D_lrep : Dfn K mg "_law_changed" s_lrep ["part", "path", "other"] _ _ := ⟨F11, PySem.W.mg_of X G a11, F11.binds (ps := ["part", "path", "other"]) fun _ _ _ _ _ _ us hl => match us, hl with | [_, _, _], _ => rfl⟩
  have F12 := fun_mk (st := s_leaf) l12 c12 k12
  have D_leaf : Dfn K mg "_law_leaf" s_leaf ["pool", "how", "told"] _ _ := ⟨F12, PySem.W.mg_of X G a12, F12.binds (ps := ["pool", "how", "told"]) fun _ _ _ _ _ _ us hl => match us, hl with | [_, _, _], _ => rfl⟩
  have F13 := fun_mk (st := s_options) l13 c13 k13
  have D_options : Dfn K mg "_law_options" s_options ["pool", "room", "depth", "limits", "told"] _ _ := ⟨F13, PySem.W.mg_of X G a13, F13.binds (ps := ["pool", "room", "depth", "limits", "told"]) fun _ _ _ _ _ _ us hl => match us, hl with | [_, _, _, _, _], _ => rfl⟩
  have F14 := fun_mk (st := s_counted) l14 c14 k14
  have D_counted : Dfn K mg "_law_counted" s_counted ["pool", "how", "room", "depth", "limits", "told"] _ _ := ⟨F14, PySem.W.mg_of X G a14, F14.binds (ps := ["pool", "how", "room", "depth", "limits", "told"]) fun _ _ _ _ _ _ us hl => match us, hl with | [_, _, _, _, _, _], _ => rfl⟩
  have F15 := fun_mk (st := s_within) l15 c15 k15
  have D_within : Dfn K mg "_law_within" s_within ["pool", "how", "room", "depth", "limits"] _ _ := ⟨F15, PySem.W.mg_of X G a15, F15.binds (ps := ["pool", "how", "room", "depth", "limits"]) fun _ _ _ _ _ _ us hl => match us, hl with | [_, _, _, _, _], _ => rfl⟩
  have F16 := fun_mk (st := s_part) l16 c16 k16
  have D_part : Dfn K mg "_law_part" s_part ["pool", "room", "depth", "limits", "told"] _ _ := ⟨F16, PySem.W.mg_of X G a16, F16.binds (ps := ["pool", "room", "depth", "limits", "told"]) fun _ _ _ _ _ _ us hl => match us, hl with | [_, _, _, _, _], _ => rfl⟩
  have F17 := fun_mk (st := s_law) l17 c17 k17
  have D_law : Dfn K mg "law" s_law ["script"] _ _ := ⟨F17, PySem.W.mg_of X G a17, F17.binds (ps := ["script"]) fun _ _ _ _ _ _ us hl => match us, hl with | [_], _ => rfl⟩
  refine ⟨PySem.W.fnOf "law" "law" (defArgs s_law) (defBody s_law) (defScope s_law) .none kV17 dc17 pm17 an17 cd17 ct17, fun s v => .of_eq rfl, fun base _ _ => ?_⟩
  have cD := ok_draw (P := l.prog) (w := w) (base := base) D_draw T
  have cC := ok_children (P := l.prog) (w := w) (base := base) D_children T
  have cLC := ok_lchildren (P := l.prog) (w := w) (base := base) D_lchildren T
  have cW := ok_wk (P := l.prog) (w := w) (base := base) D_wk T
  have cLS := lsize_all D_lsize T cLC
  exact ok_law D_law T (ok_pool D_pool T) cD (part_all D_part D_leaf D_options D_counted D_within T cD cLS 7 (by decide)) (lsub_all D_lsub T cLC 7) (sub_all D_sub T cC 7) (size_all D_size T cC 7) (cLS 7) (ok_at D_at T cC) (rep_all D_rep T cC cW 8) (lrep_all D_lrep T cLC 8)
theorem walk {l : PySem.W.OpenLaw} {q : Program} {loose : List Str} {XP : (Str → Option Value) → Heap → Prop} {YP : World → Heap → Prop} {d : DefRec} {K : Params → PySem.W.Frag} (hn : l.most = some 63) (hdf : d.params.defaults = [])
    (hY : ∀ (w : World) (h : Heap), YP w h → (K w.params).In h)
    (F : ∀ (w : World) (mg : Str → Option Value) (fa : Addr) (h : Heap), (K w.params).In h → h.Ns mainGlobals mg → mg d.name = some (.ref fa) →
      ∃ fd : FuncData, (∀ (s : Shared) (u : Value), BindsTo s fd ⟨[u], []⟩ [("script", u)]) ∧ ∀ base : Heap, (K w.params).In base → base.Ns mainGlobals mg → FnOk l.prog w (K w.params) mg base CX0 17 fa fd ["script"] (spLaw (K w.params))) :
    PySem.W.WalkO q loose XP YP l.row.toRowW d [] (fun f vs => PySem.call f vs) :=
  L2.walk_of (n := 63) (k := 17) (x := "script") (CX := fun _ => CX0) (sp := fun w => spLaw (K w.params)) hn (by decide) hdf ⟨rfl, by decide, by decide⟩ hY F (fun _ _ a ns hl _ hS => ⟨a, ns, rfl, hS, hl, fun _ => rfl⟩) fun _ _ _ _ _ z => z
end W
open PySem PySem.W PyProof.Rows
set_option maxRecDepth 100000 in
set_option maxHeartbeats 0 in
theorem PySem.Challenge.cw_withinlimits_k03_sizes_and_places_of_par_holds : PySem.Challenge.rw_withinlimits_k03_sizes_and_places_of_par.Holds := by
  w_on; o_law; k_head; (case hw => w_witness2)
  k_fill
  refine W.walk (l := PySem.Challenge.rw_withinlimits_k03_sizes_and_places_of_par) rfl rfl (fun w h Y => PySem.W.kIn_of Y) ?F
  case F =>
    intro w mg fa h KX G hmg
    refine' W.all_mk KX G hmg ?a0 ?l0 ?c0 ?k0 ?a1 ?l1 ?c1 ?k1 ?a2 ?l2 ?c2 ?k2 ?a3 ?l3 ?c3 ?k3 ?a4 ?l4 ?c4 ?k4 ?a5 ?l5 ?c5 ?k5 ?a6 ?l6 ?c6 ?k6 ?a7 ?l7 ?c7 ?k7 ?a8 ?l8 ?c8 ?k8 ?a9 ?l9 ?c9 ?k9 ?a10 ?l10 ?c10 ?k10 ?a11 ?l11 ?c11 ?k11 ?a12 ?l12 ?c12 ?k12 ?a13 ?l13 ?c13 ?k13 ?a14 ?l14 ?c14 ?k14 ?a15 ?l15 ?c15 ?k15 ?a16 ?l16 ?c16 ?k16 ?a17 ?l17 ?c17 ?k17 ?z_len ?z_abs ?z_int ?z_range ?z_list ?z_tuple ?z_sum ?z_isinstance ?z_enumerate ?z_zip ?z_max ?z_min ?z_bool
    (case a0 => k_is)
    (case l0 => k_is)
    (case c0 => k_is)
    (case k0 => k_is)
    (case a1 => k_is)
    (case l1 => k_is)
    (case c1 => k_is)
    (case k1 => k_is)
    (case a2 => k_is)
    (case l2 => k_is)
    (case c2 => k_is)
    (case k2 => k_is)
    (case a3 => k_is)
    (case l3 => k_is)
    (case c3 => k_is)
    (case k3 => k_is)
    (case a4 => k_is)
    (case l4 => k_is)
    (case c4 => k_is)
    (case k4 => k_is)
    (case a5 => k_is)
    (case l5 => k_is)
    (case c5 => k_is)
    (case k5 => k_is)
    (case a6 => k_is)
    (case l6 => k_is)
    (case c6 => k_is)
    (case k6 => k_is)
    (case a7 => k_is)
    (case l7 => k_is)
    (case c7 => k_is)
    (case k7 => k_is)
    (case a8 => k_is)
    (case l8 => k_is)
    (case c8 => k_is)
    (case k8 => k_is)
    (case a9 => k_is)
    (case l9 => k_is)
    (case c9 => k_is)
    (case k9 => k_is)
    (case a10 => k_is)
    (case l10 => k_is)
    (case c10 => k_is)
    (case k10 => k_is)
    (case a11 => k_is)
    (case l11 => k_is)
    (case c11 => k_is)
    (case k11 => k_is)
    (case a12 => k_is)
    (case l12 => k_is)
    (case c12 => k_is)
    (case k12 => k_is)
    (case a13 => k_is)
    (case l13 => k_is)
    (case c13 => k_is)
    (case k13 => k_is)
    (case a14 => k_is)
    (case l14 => k_is)
    (case c14 => k_is)
    (case k14 => k_is)
    (case a15 => k_is)
    (case l15 => k_is)
    (case c15 => k_is)
    (case k15 => k_is)
    (case a16 => k_is)
    (case l16 => k_is)
    (case c16 => k_is)
    (case k16 => k_is)
    (case a17 => k_is)
    (case l17 => k_is)
    (case c17 => k_is)
    (case k17 => k_is)
    (case z_len => k_is)
    (case z_abs => k_is)
    (case z_int => k_is)
    (case z_range => k_is)
    (case z_list => k_is)
    (case z_tuple => k_is)
    (case z_sum => k_is)
    (case z_isinstance => k_is)
    (case z_enumerate => k_is)
    (case z_zip => k_is)
    (case z_max => k_is)
    (case z_min => k_is)
    (case z_bool => k_is)

