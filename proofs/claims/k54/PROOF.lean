import PyProof.Rows.All
import Wide.All
import OpenK.AllK
import Wide.FinOn
import HandS.Head0
import HandS.Head1
import HandS.Head2
import KE.KStateDown
import PyProof.RulesMatch
import HandS.ForMost
import HandS.Codes
import HandS.Star
import HandS.IsInst
import HandS.TupAny
import HandS.Evl
import HandS.Walk
import HandS.Zip
import KE.GoesZip
import KE.GoesMore
import PyProof.EqAt
import PyProof.EqKinds
import PyProof.TupleCall
import Open.SpecLaws
import KE.OsGo
import KE.KExcSuper
import HandS.ForSpec
import HandS.Exc
import HandS.ExcCtx
import HandS.TryMany
import HandS.ExcField
import HandS.ExcIs
import KE.KExcIs
import HandS.More
import HandS.SlotsOwn
import KE.KOpsOwn
import PyProof.InstEq
import HandS.Property
import HandS.MakeKw
import HandS.Wide
import HandS.Deep
import HandS.TupMul
import HandS.ExcInit
import KE.KWithOwn
import HandS.Finally
import HandS.HotCalls
import HandS.Defaults
import KE.KCallOwn
import HandS.Hot
import HandS.Style
import HandS.Records
import PyProof.MeetsIn
import PyProof.Rows.Range3
import PyProof.P3In
import HandS.SortInts
import HandS.Iter
import HandS.TryOnly
import PyProof.TwoTypes
import PyProof.FactsAll.int_1
import HandS.GenList
import HandS.ClsMeth
import HandS.OwnEq
import KE.KEqNest
import HandS.SetFor
import HandS.Strs
import PySem.Challenge.RW_withinlimits_k54_fronts_side_by_side
set_option Elab.async false
set_option linter.all false
namespace W
open PySem
def hLo0 : List PySem.Str := ["_wall", "__name__", "LimitError", "NoSet", "TooLarge", "MOST", "MOST_BOUND_sets", "is_count", "is_ascending", "check_set", "flags_of", "shortest_period", "shortest", "divisor_of", "set_of_flags", "common_frame", "joined", "is_shift", "LengthSet", "MOST_BOUND_fronts", "gone", "Front", "_law_pool", "_law_draw", "_law_some", "_law_fields", "_law_has", "_law_made", "_law_front", "_law_pairs"]
def hLoose : List PySem.Str := hLo0
abbrev hRow : PySem.W.OpenRow := PySem.W.OpenLaw.row PySem.Challenge.rw_withinlimits_k54_fronts_side_by_side
def hView : Program := PySem.W.view hRow.prog [33]
theorem hOb {as : List Addr} (s : PySem.W.SharedT) : as.map (HandSHeadRun.getT s) = as.map s.abs.heap.get? := List.map_congr_left fun a _ => HandSHeadRun.getT_eq s a
section
open PySem.W
local macro_rules | `(tactic| o_head (kHook $k $a $p)) => `(tactic| assumption)
set_option maxRecDepth 100000 in
set_option maxHeartbeats 0 in
theorem kd (h : hRow.Holds) : hRow.Holds := by
  k_head
end
def hP : Params := { strHash := fun _ => 0, shareClass := fun _ => 0, mergeTok := fun t => t, idOf := fun _ => 0, idOfShared := fun _ _ => 0, followText := fun _ => false, idOfImm := fun _ => 0 }
noncomputable def hAs : List Addr := (kd.heap_1 hP).map (·.1)
theorem hAsE (P : Params) : hAs = (kd.heap_1 P).map (·.1) := by kernel_rfl
set_option maxRecDepth 100000 in
set_option maxHeartbeats 0 in
theorem hRunF (w : World) : HandSHeadRun.RunEq hRow hView (PySem.W.kHook kd.heap_1 hAs hAsE) (fun s => List.map (HandSHeadRun.getT s) hAs) 30000 hLoose (w.withFollow "special-get-raises" false) := by
  intro os
  kernel_rfl
set_option maxRecDepth 100000 in
set_option maxHeartbeats 0 in
theorem hRunT (w : World) : HandSHeadRun.RunEq hRow hView (PySem.W.kHook kd.heap_1 hAs hAsE) (fun s => List.map (HandSHeadRun.getT s) hAs) 30000 hLoose (w.withFollow "special-get-raises" true) := by
  intro os
  kernel_rfl
theorem hRun (w : World) : HandSHeadRun.RunEq hRow hView (PySem.W.kHook kd.heap_1 hAs hAsE) (fun s => List.map (HandSHeadRun.getT s) hAs) 30000 hLoose w := PySem.W.byRow2 "special-get-raises" (P := fun w => HandSHeadRun.RunEq hRow hView (PySem.W.kHook kd.heap_1 hAs hAsE) (fun s => List.map (HandSHeadRun.getT s) hAs) 30000 hLoose w) hRunF hRunT w

end W

set_option Elab.async false
set_option linter.all false
set_option maxRecDepth 100000
set_option maxHeartbeats 4000000
namespace L2
open PySem PySem.Spec PyProof.Rows

/-! ### match upon texts -/
section
variable {X : Cx}
/-- a pattern that asks a text -/
structure PPt (X : Cx) (p : Pattern) (f : Str → Bool) : Prop where
  run : ∀ (pins : List (Addr × Obj)) (s : Shared) (σ : L2.St) (H : Hp) (y : Str) (u : Value), Inv X pins σ H s → RelV (.str y) u →
    wpAny (model X.prog X.w) X.A (matchPattern p X.env u) (fun r s' => Inv X pins σ H s' ∧ r = if f y = true then some [] else none) X.xe s
structure PFs (X : Cx) (ps : List Pattern) (f : Str → Bool) : Prop where
  run : ∀ (pins : List (Addr × Obj)) (s : Shared) (σ : L2.St) (H : Hp) (y : Str) (u : Value), Inv X pins σ H s → RelV (.str y) u →
    wpAny (model X.prog X.w) X.A (matchFirst ps X.env u) (fun r s' => Inv X pins σ H s' ∧ r = if f y = true then some [] else none) X.xe s
structure PCs (X : Cx) (cs : List MatchCase) (t : V → TS) : Prop where
  run : ∀ (first : Bool) (pins : List (Addr × Obj)) (s : Shared) (σ : L2.St) (H : Hp) (D : Ends) (x : V) (u : Value), Inv X pins σ H s → RelV x u → t x D σ H →
    wpAny (model X.prog X.w) X.A (matchCases cs X.env u first) (SP X pins D) X.xe s
theorem pp_val {z : Str} {j p pos} : PPt X (.MatchValue (.Constant (.str z) j p) pos) (fun y => decide (y = z)) := by
  refine ⟨fun pins s σ H y u I r => ?_⟩
  refine wpAny_matchPattern_Value ?_
  refine thn (pe_str.run pins s σ H (fun v H' => v = .str z ∧ H' = H) I ⟨rfl, rfl⟩) fun x s1 ⟨v, H1, I1, r1, e1, e2⟩ => ?_
  subst e1 e2
  refine thn (op_eq pins s1 σ H1 (.str y) (.str z) u x (fun w H' => w = .bl (decide (V.str y = V.str z)) ∧ H' = H1) I1 r r1 ⟨rfl, rfl, rfl⟩) fun c s2 ⟨w, H2, I2, r2, e1, e2⟩ => ?_
  subst e1 e2
  cases r2
  refine wpAny_truthy_bool ?_
  by_cases h : y = z
  · subst h
    simp [I2]
  · simp [I2, h]
def fNil : Str → Bool := fun _ => false
def fOr (f g : Str → Bool) : Str → Bool := fun y => f y || g y
theorem pf_nil : PFs X [] fNil := ⟨fun pins s σ H y u I r => wpAny_matchFirst_nil ⟨I, rfl⟩⟩
theorem pf_cons {p : Pattern} {ps : List Pattern} {f g : Str → Bool} (h1 : PPt X p f) (h2 : PFs X ps g) : PFs X (p :: ps) (fOr f g) := by
  refine ⟨fun pins s σ H y u I r => ?_⟩
  refine wpAny_matchFirst_cons (thn (h1.run pins s σ H y u I r) fun o s1 ⟨I1, e⟩ => ?_)
  subst e
  cases hf : f y with
  | true => exact ⟨I1, by simp [fOr, hf]⟩
  | false =>
    refine thn (h2.run pins s1 σ H y u I1 r) fun o s2 ⟨I2, e⟩ => ⟨I2, ?_⟩
    subst e
    simp [fOr, hf]
theorem pp_or {ps : List Pattern} {pos : Pos} {f : Str → Bool} (h : PFs X ps f) (hn : namesOfAll (ps.take 1) = [] := by rfl) : PPt X (.MatchOr ps pos) f := by
  refine ⟨fun pins s σ H y u I r => ?_⟩
  refine wpAny_matchPattern_Or (thn (h.run pins s σ H y u I r) fun o s1 ⟨I1, e⟩ => ?_)
  subst e
  cases hf : f y with
  | true => exact ⟨I1, by simp [hn]⟩
  | false => exact ⟨I1, by simp⟩
def cNil : V → TS := fun _ D σ H => D.nx σ H
def cIf (f : Str → Bool) (t : TS) (r : V → TS) : V → TS := fun x D σ H => ∃ y, x = .str y ∧ if f y = true then t D σ H else r x D σ H
def cAny (t : TS) : V → TS := fun _ D σ H => t D σ H
theorem pcs_nil : PCs X [] cNil := ⟨fun _ _ _ σ H _ _ _ I _ h => wpAny_matchCases_nil ⟨σ, H, I, h⟩⟩
theorem pcs_cons {p : Pattern} {body : List Stmt} {rest : List MatchCase} {f : Str → Bool} {t : TS} {r : V → TS} (h1 : PPt X p f) (h2 : PSs X body t) (h3 : PCs X rest r) : PCs X (⟨p, none, body⟩ :: rest) (cIf f t r) := by
  refine ⟨fun first pins s σ H D x u I rx h => ?_⟩
  obtain ⟨y, rfl, h⟩ := h
  refine wpAny_matchCases_cons (thn (h1.run pins s σ H y u I rx) fun o s1 ⟨I1, e⟩ => ?_)
  subst e
  cases hf : f y with
  | true =>
    rw [hf] at h
    exact wpAny_assignInOrder_none (h2.run pins s1 σ H D I1 h)
  | false =>
    rw [hf] at h
    exact h3.run false pins s1 σ H D _ u I1 rx h
theorem pcs_any {body : List Stmt} {rest : List MatchCase} {pos : Pos} {t : TS} (h2 : PSs X body t) : PCs X (⟨.MatchAs none none pos, none, body⟩ :: rest) (cAny t) := by
  refine ⟨fun first pins s σ H D x u I rx h => ?_⟩
  refine wpAny_matchCases_cons (wpAny_matchPattern_Capture ?_)
  exact wpAny_assignInOrder_none (h2.run pins s σ H D I h)
def tMatch (te : TE) (t : V → TS) : TS := fun D σ H => te σ H fun x H1 => t x D σ H1
theorem ps_match {e : Expr} {cs : List MatchCase} {pos : Pos} {te : TE} {t : V → TS} (he : PE X e te) (h : PCs X cs t) : PS X (.Match e cs pos) (tMatch te t) := by
  refine ⟨fun pins s σ H D I hw => ?_⟩
  refine wpAny_Match (thn (he.run pins s σ H _ I hw) fun u s1 ⟨x, H1, I1, r1, q1⟩ => ?_)
  exact h.run true pins s1 σ H1 D x u I1 r1 q1
end
/-! ### int(n) of an int, of a bool -/
theorem CallR.imp {X : Cx} {f : Value} {r r' : List V → Hp → VK → Prop} (h : CallR X f r) (hi : ∀ xs H Q, r' xs H Q → r xs H Q) : CallR X f r' :=
  fun pins s σ H xs us Q I rv q => h pins s σ H xs us Q I rv (hi _ _ _ q)
theorem call_intI {X : Cx} : CallR X (.type "int") (fun xs H Q => ∃ i, xs = [.int i] ∧ Q (.int i) H) := CallR.imp call_int1 fun _ _ _ q => .inl q
theorem call_intB {X : Cx} : CallR X (.type "int") (fun xs H Q => ∃ k, xs = [.bl k] ∧ Q (.int (if k then 1 else 0)) H) := CallR.imp call_int1 fun _ _ _ q => .inr q
/-! ### loops and comprehensions: the walked thing apart from what is done with it -/
def ForB (J : It) (g : TG) (tb : TS) (D : Ends) (σ : L2.St) (H1 : Hp) : Prop := ∃ W : Nat → Nat → L2.St → Hp → Prop, (∃ m, W 0 m σ H1) ∧ ∀ i m σ H, W i m σ H →
  (J.stop i H ∧ D.nx σ H) ∨ (J.go i H ∧ ∃ N : L2.St → Hp → Prop, (∀ σ' H', N σ' H' → ∃ m', m' < m ∧ W (i + 1) m' σ' H') ∧ ∀ x H', J.yld i H x H' → g x σ H' fun σ2 H2 => tb { D with nx := N, ct := N, bk := D.nx } σ2 H2)
theorem tFor_eq {wi : TI} {g : TG} {tb : TS} {D : Ends} {σ : L2.St} {H : Hp} : tFor wi g tb D σ H = wi σ H fun J H1 => ForB J g tb D σ H1 := rfl
theorem forB {J : It} {n : Nat} {G : Hp → Prop} {Y : Nat → Hp → V → Hp → Prop} (w : Walk J n G Y) {g : TG} {tb : TS} {D : Ends} {σ : L2.St} {H : Hp} (Pv : Nat → L2.St → Hp → Prop) (h0 : Pv 0 σ H) (hG : ∀ i σ H, i ≤ n → Pv i σ H → G H)
    (hs : ∀ i x σ H H', i < n → Pv i σ H → Y i H x H' → g x σ H' fun σ2 H2 => tb { D with nx := Pv (i + 1), ct := Pv (i + 1), bk := D.nx } σ2 H2) (hd : ∀ σ H, Pv n σ H → D.nx σ H) : ForB J g tb D σ H := for_it w Pv h0 hG hs hd
def LcB (J : It) (g : TG) (tt : TT) (te : TE) (vs : List Nat) (σ : L2.St) (Q : VK) (H1 : Hp) : Prop := ∀ D, H1 D = none → ∃ W : Nat → Nat → Hp → Prop, (∃ m, W 0 m (upd H1 D (.lst []))) ∧ ∀ i m H, W i m H →
  (J.stop i H ∧ Q (.ref D) H) ∨ (J.go i H ∧ ∃ Nx : Hp → Prop, (∀ H', Nx H' → ∃ m', m' < m ∧ W (i + 1) m' H') ∧ ∀ x H', J.yld i H x H' → g x (wipe σ vs) H' fun σ2 H2 => wipe σ2 vs = wipe σ vs ∧ tt σ2 H2 fun b H3 =>
    if b = true then te σ2 H3 fun y H4 => ∃ acc, H4 D = some (.lst acc) ∧ acc.length < sizeLine ∧ Nx (upd H4 D (.lst (acc ++ [y]))) else Nx H3)
theorem tLc_eq {wi : TI} {g : TG} {tt : TT} {te : TE} {vs : List Nat} {σ : L2.St} {H : Hp} {Q : VK} : tLc wi g tt te vs σ H Q = wi σ H fun J H1 => LcB J g tt te vs σ Q H1 := rfl
theorem lcB {J : It} {n : Nat} {G : Hp → Prop} {Y : Nat → Hp → V → Hp → Prop} (w : Walk J n G Y) {g : TG} {tt : TT} {te : TE} {vs : List Nat} {σ : L2.St} {H1 : Hp} {Q : VK} (Pv : Addr → Nat → Hp → Prop) (h0 : ∀ D, H1 D = none → Pv D 0 (upd H1 D (.lst []))) (hG : ∀ D i H, i ≤ n → Pv D i H → G H)
    (hs : ∀ D i x H H', H1 D = none → i < n → Pv D i H → Y i H x H' → g x (wipe σ vs) H' fun σ2 H2 => wipe σ2 vs = wipe σ vs ∧ tt σ2 H2 fun b H3 =>
      if b = true then te σ2 H3 fun y H4 => ∃ acc, H4 D = some (.lst acc) ∧ acc.length < sizeLine ∧ Pv D (i + 1) (upd H4 D (.lst (acc ++ [y]))) else Pv D (i + 1) H3) (hd : ∀ D H, H1 D = none → Pv D n H → Q (.ref D) H) : LcB J g tt te vs σ Q H1 :=
  fun D hD => lc_it w (Pv D) (h0 D hD) (hG D) (fun i x H H' hi p y => hs D i x H H' hD hi p y) (fun H p => hd D H hD p)
/-- a list or a tuple is walked; is read by a place -/
def iLT (K : PySem.W.Frag) (tl : TE) : TI := fun σ H R => tl σ H fun x H1 => ∃ a, x = .ref a ∧ ((∃ xs, SqL K H1 a xs) ∧ R (Itl K a) H1 ∨ (∃ xs, SqT K H1 a xs) ∧ R (Itt K a) H1)
theorem ix_lt {X : Cx} : IxR X (fun x y H Q => rIxL X.K x y H Q ∨ rIxT X.K x y H Q) := IxR.or ix_list ix_tup
/-! ### new objects, the heap behind them told by what it keeps -/
def NewA (H : Hp) (o : HO) (Q : VK) : Prop := ∀ p H2, H p = none → Same H H2 → H2 p = some o → Q (.ref p) H2
theorem NewA.at {H : Hp} {o : HO} {Q : VK} (h : NewA H o Q) : ∀ p, H p = none → Q (.ref p) (upd H p o) := fun p hp =>
  h p _ hp (fun b u q => by rw [upd_ne (ne_of_none q hp)]; exact q) upd_same
section
variable {X : Cx}
def tTupA (t : TA) : TE := fun σ H Q => t σ H fun xs H1 => xs.length ≤ sizeLine ∧ NewA H1 (.tup xs) Q
def tLstA (t : TA) : TE := fun σ H Q => t σ H fun xs H1 => xs.length ≤ sizeLine ∧ NewA H1 (.lst xs) Q
theorem pe_tupA {es : List Expr} {t : TA} {x1} {pos : Pos} (h : PA X es t) : PE X (.Tuple es x1 pos) (tTupA t) := by
  refine ⟨fun pins s σ H Q I hq => ?_⟩
  refine wpAny_Tuple_spliced (thn (h.run pos pins s σ H _ I hq) fun us s1 ⟨xs, H1, I1, r, z, q⟩ => ⟨by rw [← r.length]; exact z, ?_⟩)
  have hf : H1 s1.heap.objs.size = none := I1.hok.fresh (Nat.le_refl _)
  refine ⟨.ref s1.heap.objs.size, upd H1 s1.heap.objs.size (.tup xs), I1.laid (t' := s1.toks) (fun b u e => Heap.get?_push_of_some _ e) (Nat.le_refl _) ?_, rfl, q.at _ hf⟩
  exact ⟨z, us, r, ⟨_, Heap.get?_push_size _ rfl, rfl, _, rfl⟩⟩
theorem pe_lstA {es : List Expr} {t : TA} {pos : Pos} (h : PA X es t) : PE X (.List es pos) (tLstA t) := by
  refine ⟨fun pins s σ H Q I hq => ?_⟩
  refine wpAny_List_spliced (thn (h.run pos pins s σ H _ I hq) fun us s1 ⟨xs, H1, I1, r, z, q⟩ => ⟨by rw [← r.length]; exact z, ?_⟩)
  have hf : H1 s1.heap.objs.size = none := I1.hok.fresh (Nat.le_refl _)
  refine ⟨.ref s1.heap.objs.size, upd H1 s1.heap.objs.size (.lst xs), I1.laid (t' := s1.toks) (fun b u e => Heap.get?_push_of_some _ e) (Nat.le_refl _) ?_, rfl, q.at _ hf⟩
  exact ⟨z, us, 0, r, Heap.get?_push_size _ rfl⟩
theorem OpR.imp {f : Value → Value → Sem Value} {r r' : R2} (h : OpR X f r) (hi : ∀ x y H Q, r' x y H Q → r x y H Q) : OpR X f r' := fun pins s σ H x y v u Q I rx ry q => h pins s σ H x y v u Q I rx ry (hi _ _ _ _ q)
theorem SlR.imp {r r' : V → Option Int → Option Int → Hp → VK → Prop} (h : SlR X r) (hi : ∀ x lo hi H Q, r' x lo hi H Q → r x lo hi H Q) : SlR X r' := fun pins s σ H x v vl vu lo hi' sl Q I rx hs pl pu q => h pins s σ H x v vl vu lo hi' sl Q I rx hs pl pu (hi _ _ _ _ _ q)
def rCatL (K : PySem.W.Frag) : R2 := fun x y H Q => ∃ l b xs zs, x = .ref l ∧ y = .ref b ∧ H l = some (.lst xs) ∧ H b = some (.lst zs) ∧ xs.length + zs.length ≤ sizeLine ∧ NewA H (.lst (xs ++ zs)) Q
theorem op_catL (K : PySem.W.Frag) : OpR X (binaryOp .Add) (rCatL K) := OpR.imp op_cat fun x y H Q ⟨l, b, xs, zs, e1, e2, h1, h2, z, q⟩ => ⟨l, b, xs, zs, e1, e2, h1, h2, z, q.at⟩
def rRepL : R2 := fun x y H Q => ∃ l k xs, x = .ref l ∧ y = .int k ∧ H l = some (.lst xs) ∧ -(2 ^ 63) ≤ k ∧ k < 2 ^ 63 ∧ xs.length * k.toNat ≤ sizeLine ∧ NewA H (.lst (List.replicate k.toNat xs).flatten) Q
theorem op_repL : OpR X (binaryOp .Mult) rRepL := OpR.imp op_rep fun x y H Q ⟨l, k, xs, e1, e2, h1, h2, h3, z, q⟩ => ⟨l, k, xs, e1, e2, h1, h2, h3, z, q.at⟩
end
/-! ### rules with the written part told (inside a comprehension) -/
section
variable {X : Cx} (K : PySem.W.Frag) (hK : X.K = K := by rfl)
include hK
theorem kix_list : IxR X (rIxL K) := hK ▸ ix_list
theorem kix_tup : IxR X (rIxT K) := hK ▸ ix_tup
theorem kix_lt : IxR X (fun x y H Q => rIxL K x y H Q ∨ rIxT K x y H Q) := hK ▸ ix_lt
theorem kop_in_seq : OpR X (compareOp .In) (rIn K false) := hK ▸ op_in_seq
theorem kop_notIn_seq : OpR X (compareOp .NotIn) (rIn K true) := hK ▸ op_notIn_seq
theorem kop_eqD (hu : X.A.units + 64 < cLine) : OpR X (compareOp .Eq) (rEqD K) := hK ▸ op_eqD hu
theorem kop_neD (hu : X.A.units + 64 < cLine) : OpR X (compareOp .NotEq) (rNeD K) := hK ▸ op_neD hu
omit hK in
def rCatTA : R2 := fun x y H Q => ∃ a b xs ys, x = .ref a ∧ y = .ref b ∧ SqT K H a xs ∧ SqT K H b ys ∧ xs.length + ys.length ≤ sizeLine ∧ ∀ p H2, Same H H2 → SqT K H2 p (xs ++ ys) → Q (.ref p) H2
theorem kop_catA : OpR X (binaryOp .Add) (rCatTA K) := hK ▸ OpR.imp op_catA fun x y H Q ⟨a, b, xs, ys, e1, e2, h1, h2, z, q⟩ => ⟨a, b, xs, ys, e1, e2, h1, h2, z,
  fun e => q b H (Same.refl H) (by rw [e, List.nil_append]; exact h2), fun _ e => q a H (Same.refl H) (by rw [e, List.append_nil]; exact h1),
  fun _ _ p hp => q p _ (fun c u w => by rw [upd_ne (ne_of_none w hp)]; exact w) (SqT.of upd_same)⟩
omit hK in
def rSlLA : V → Option Int → Option Int → Hp → VK → Prop := fun x lo hi H Q => ∃ a xs, x = .ref a ∧ SqL K H a xs ∧ NewA H (.lst (cutV xs lo hi)) Q
theorem ksl_list : SlR X (rSlLA K) := hK ▸ SlR.imp sl_list fun x lo hi H Q ⟨a, xs, e, h, q⟩ => ⟨a, xs, e, h, q.at⟩
omit hK in
def rSlTA : V → Option Int → Option Int → Hp → VK → Prop := fun x lo hi H Q => ∃ a xs, x = .ref a ∧ SqT K H a xs ∧ ∀ p H2, Same H H2 → SqT K H2 p (cutV xs lo hi) → Q (.ref p) H2
theorem ksl_tupA : SlR X (rSlTA K) := hK ▸ SlR.imp sl_tupA fun x lo hi H Q ⟨a, xs, e, h, q⟩ => ⟨a, xs, e, h,
  fun ⟨c1, c2⟩ => q a H (Same.refl H) (by unfold cutV; rw [c1, c2, List.drop_zero, Nat.sub_zero, List.take_length]; exact h), fun _ p hp => q p _ (fun c u w => by rw [upd_ne (ne_of_none w hp)]; exact w) (SqT.of upd_same)⟩
theorem kcall_len_seq : CallR X (.builtin "len") (fun xs H Q => ∃ p ys, xs = [.ref p] ∧ (SqL K H p ys ∨ SqT K H p ys) ∧ Q (.int ys.length) H) := hK ▸ call_len_seq
theorem kcall_list_of : CallR X (.type "list") (fun xs H Q => ∃ p ys, xs = [.ref p] ∧ (SqL K H p ys ∨ SqT K H p ys) ∧ NewA H (.lst ys) Q) := hK ▸ CallR.imp call_list_of fun xs H Q ⟨p, ys, e, h, q⟩ => ⟨p, ys, e, h, q.at⟩
theorem kcall_tuple_of : CallR X (.type "tuple") (fun xs H Q => ∃ p ys, xs = [.ref p] ∧ (SqL K H p ys ∨ SqT K H p ys) ∧ ∀ t H2, Same H H2 → SqT K H2 t ys → Q (.ref t) H2) := hK ▸ CallR.imp call_tuple_of fun xs H Q ⟨p, ys, e, h, q⟩ => ⟨p, ys, e, h.elim (fun h => .inl ⟨h, fun l hl => q l _ (fun c u w => by rw [upd_ne (ne_of_none w hl)]; exact w) (SqT.of upd_same)⟩) fun h => .inr ⟨h, q p H (Same.refl H) h⟩⟩
theorem kcr_sum (hc : X.calm = true) : CallR X (.builtin "sum") (rSum K) := hK ▸ cr_sum hc
theorem kcr_max (hc : X.calm = true) : CallR X (.builtin "max") (rMax K) := hK ▸ cr_max hc
theorem kcr_min (hc : X.calm = true) : CallR X (.builtin "min") (rMin K) := hK ▸ cr_min hc
theorem kcall_isi : CallR X (.builtin "isinstance") (rIsi K) := hK ▸ call_isi
theorem kcall_isiT : CallR X (.builtin "isinstance") (rIsiT K) := hK ▸ call_isiT
end
section
variable {X : Cx} (K : PySem.W.Frag)
theorem kpg_tup {es : List Expr} {k : Nat} {t : TGs} {n : Nat} {pos : Pos} (hc : X.calm = true) (h : PGs X es t) (hK : X.K = K := by rfl)
    (hn : (assignEach es X.env).length = n := by rfl) (hst : (assignEach es X.env).findIdx? (·.1) = none := by rfl) : PG X (.Tuple es k pos) (gTup K n t) := hK ▸ pg_tup hc h hn hst
theorem kpi_list {tg e : Expr} {te : TE} (h : PE X e te) (hK : X.K = K := by rfl) : PI X tg e (iList K te) := hK ▸ pi_list h
theorem kpi_tup {tg e : Expr} {te : TE} (h : PE X e te) (hK : X.K = K := by rfl) : PI X tg e (iTup K te) := hK ▸ pi_tup h
theorem kpa_star {e : Expr} {es : List Expr} {te : TE} {t : TA} {p : Pos} (he : PE X e te) (hr : PA X es t) (hK : X.K = K := by rfl) (hs : starEach (.Starred e p :: es) X.env = (true, eval e X.env) :: starEach es X.env := by rfl) : PA X (.Starred e p :: es) (StX.tStar K te t) := hK ▸ StX.pa_star he hr hs
end
theorem cxOf_K {CX P w K mg base N q sc f cd A outer s H E} : (cxOf CX P w K mg base N q sc f cd A outer s H E).K = K := rfl
end L2

set_option Elab.async false
set_option linter.all false
set_option maxRecDepth 100000
set_option maxHeartbeats 4000000
namespace L2
open PySem PySem.Spec PyProof.Rows
/-! ### zip of a tuple and a list -/
def ItzM (K : PySem.W.Frag) (a b : Addr) : It where
  go := fun i H => ∃ (us vs : List V) (x y : V), (SqT K H a us ∧ us[i]? = some x) ∧ SqL K H b vs ∧ vs[i]? = some y
  yld := fun i H v G => ∃ (T : Addr) (x y : V), (v = .ref T ∧ H T = none) ∧ G = upd H T (.tup [x, y]) ∧ (∀ us, SqT K H a us → us[i]? = some x) ∧ ∀ vs, SqL K H b vs → vs[i]? = some y
  stop := fun i H => ∃ us vs : List V, SqT K H a us ∧ SqL K H b vs ∧ (us.length = i ∧ i ≤ vs.length ∨ vs.length = i ∧ i ≤ us.length)
theorem sep_of {z p q i1 i2 a b : Addr} (D : ZipApart z p q i1 i2 a b) : ZipSep2 z p q i1 i2 [i1, a] [i2, b] where
  TIz := D.TIz
  TOz := D.TOz
  TITO := D.TITO
  TIi1 := D.TIi1
  TIi2 := D.TIi2
  mem1 := by simp
  mem2 := by simp
  zf1 := by simp; exact ⟨fun e => D.i1z e.symm, fun e => D.l1z e.symm⟩
  zf2 := by simp; exact ⟨fun e => D.i2z e.symm, fun e => D.l2z e.symm⟩
  Tf1 := by simp; exact ⟨fun e => D.TOi1 e, fun e => D.l1TO e.symm⟩
  Tf2 := by simp; exact ⟨fun e => D.TOi2 e, fun e => D.l2TO e.symm⟩
  sep1_2 := by simp; exact ⟨fun e => D.i12 e, fun e => D.l2i1 e.symm⟩
  sep2_1 := by simp; exact ⟨fun e => D.i12 e.symm, fun e => D.l1i2 e.symm⟩
theorem turn_zipM {P : Program} {w : World} {K : PySem.W.Frag} {elts : List Expr} {kk : Nat} {tp : Pos} {a b z p q i1 i2 : Addr} (D : ZipApart z p q i1 i2 a b) :
    Turn P w K (.Tuple elts kk tp) (ItzM K a b) [z, p, q, i1, i2] z (fun i h => (IsZip h z p q .none ∧ IsTupOf2 h p (.ref i1) (.ref i2)) ∧ (∃ x y, IsTupOf2 h q x y) ∧ h.IsTupleIter i1 a i ∧ h.IsListIter i2 b i) where
  mem := List.mem_cons_self ..
  obj := by
    rintro i h ⟨⟨c1, c2⟩, ⟨x, y, c3⟩, ⟨o4, c4, _, d4⟩, o5, c5, _, d5⟩ c hc
    simp only [List.mem_cons, List.not_mem_nil, or_false] at hc
    rcases hc with rfl | rfl | rfl | rfl | rfl
    · exact ⟨_, c1, fun v e => nomatch e⟩
    · exact ⟨_, c2, fun v e => nomatch e⟩
    · exact ⟨_, c3, fun v e => nomatch e⟩
    · exact ⟨_, c4, fun v e => by rw [d4] at e; cases e⟩
    · exact ⟨_, c5, fun v e => by rw [d5] at e; cases e⟩
  keep := by
    rintro i h h' ⟨⟨c1, c2⟩, ⟨x, y, c3⟩, c4, c5⟩ k
    refine ⟨⟨k z (by simp) _ c1, k p (by simp) _ c2⟩, ⟨x, y, k q (by simp) _ c3⟩, c4.at fun o e => k i1 (by simp) o e, c5.at fun o e => k i2 (by simp) o e⟩
  item := by
    rintro X rfl rfl rfl hc i pins s σ H E I hf ⟨⟨c1, c2⟩, ⟨x0, y0, c3⟩, c4, c5⟩ ⟨us, vs, x, y, ⟨hu, hx⟩, hv, hy⟩
    obtain ⟨its, r1, p1, _⟩ := I.tuple hu
    obtain ⟨ivs, r2, p2, _⟩ := I.list hv
    obtain ⟨m1, e1, rx⟩ := r1.get hx
    obtain ⟨m2, e2, ry⟩ := r2.get hy
    have hd0 : X.A.in1.handled = none := I.ok.hd hc
    have g1 := (List.getElem?_eq_some_iff.mp e1).1
    have g2 := (List.getElem?_eq_some_iff.mp e2).1
    refine wpAny_pyNext_zipD2_item (sep_of D) (Draws.tuple hd0 i1 a D.l1i1 its.toArray) (Draws.list hd0 i2 b D.l2i2 ivs.toArray) c1 c2 c3 ⟨c4, p1⟩ ⟨c5, p2.isList⟩ (by simpa using g1) (by simpa using g2) ?_
    intro x1 x2 h' tk q1 q2 z' q' s1 s2 hT hsz hk
    have ex1 : x1 = m1 := by simpa [e1] using q1.symm
    have ex2 : x2 = m2 := by simpa [e2] using q2.symm
    subst ex1 ex2
    have zlt : z < s.heap.objs.size := Heap.lt_size c1
    refine ⟨_, rfl, wpAny_letOwnedTupleGo_zip (s := { s with heap := h', toks := tk }) z' fun h2 z2 sb => ?_⟩
    have hT2 := (sb.2 _ (Nat.ne_of_gt zlt)).trans hT
    have J : Inv X pins σ (upd H s.heap.objs.size (.tup [x, y])) { s with heap := h2, toks := tk } := by
      refine I.turnedNew (ch := [z, p, q, i1, i2]) (fun c o hcm e => ?_) hf (Nat.le_refl _) ⟨by show 2 ≤ sizeLine; decide, [x1, x2], .cons rx (.cons ry .nil), _, hT2, rfl, _, rfl⟩
      simp only [List.mem_cons, List.not_mem_nil, or_false, not_or] at hcm
      exact (sb.2 c hcm.1).trans (hk c o hcm.1 hcm.2.2.1 hcm.2.2.2.1 hcm.2.2.2.2 e)
    refine ⟨.ref s.heap.objs.size, _, J, rfl, ⟨_, x, y, ⟨rfl, I.hok.fresh (Nat.le_refl _)⟩, rfl, fun l hl => ?_, fun l hl => ?_⟩, ⟨⟨z2, ?_⟩, ⟨x1, x2, ?_⟩, ?_, ?_⟩, fun c hcm => ?_⟩
    · rw [I.tuple_inj hl hu]; exact hx
    · rw [I.list_inj hl hv]; exact hy
    · exact (sb.2 _ D.TIz).trans (hk _ _ D.TIz D.TITO D.TIi1 D.TIi2 c2)
    · exact (sb.2 _ D.TOz).trans q'
    · exact s1.1.at fun o e => (sb.2 _ D.i1z).trans e
    · exact s2.1.at fun o e => (sb.2 _ D.i2z).trans e
    · have hlt : c < s.heap.objs.size := by
        simp only [List.mem_cons, List.not_mem_nil, or_false] at hcm
        rcases hcm with rfl | rfl | rfl | rfl | rfl
        · exact zlt
        · exact Heap.lt_size c2
        · exact Heap.lt_size c3
        · obtain ⟨_, e, _⟩ := c4; exact Heap.lt_size e
        · obtain ⟨_, e, _⟩ := c5; exact Heap.lt_size e
      rw [upd_ne (Nat.ne_of_lt hlt)]
      exact (hf c hcm).1
  done := by
    rintro X rfl rfl rfl hc i pins s σ H E I hf ⟨⟨c1, c2⟩, ⟨x0, y0, c3⟩, c4, c5⟩ ⟨us, vs, hu, hv, hend⟩
    obtain ⟨its, r1, p1, _⟩ := I.tuple hu
    obtain ⟨ivs, r2, p2, _⟩ := I.list hv
    have hd0 : X.A.in1.handled = none := I.ok.hd hc
    have l1 := r1.length
    have l2 := r2.length
    refine wpAny_pyNext_zipD2_end (sep_of D) (Draws.tuple hd0 i1 a D.l1i1 its.toArray) (Draws.list hd0 i2 b D.l2i2 ivs.toArray) c1 c2 c3 ⟨c4, p1⟩ ⟨c5, p2.isList⟩ ?_ ?_ ?_ fun h' tk hk => ⟨rfl, ?_⟩
    · simp; omega
    · simp; omega
    · simp; omega
    · refine I.turnedL (ch := [z, p, q, i1, i2]) (fun c o hcm e => ?_) hf
      simp only [List.mem_cons, List.not_mem_nil, or_false, not_or] at hcm
      exact hk c o hcm.1 hcm.2.2.1 hcm.2.2.2.1 hcm.2.2.2.2 e
  self := fun A i s Q E st h => wpAny_pyIter_zip st.1.1 h
def iZipM (K : PySem.W.Frag) (ta : TA) : TI := fun σ H R => ta σ H fun vs H1 => ∃ a b us ws, vs = [.ref a, .ref b] ∧ SqT K H1 a us ∧ SqL K H1 b ws ∧ R (ItzM K a b) H1
theorem pi_zipM {X : Cx} (K : PySem.W.Frag) {e1 e2 : Expr} {ta : TA} {p pos tp : Pos} {elts : List Expr} {kk : Nat} (hg : Gl X "zip") (hm : X.mg "zip" = none) (ha : PA X [e1, e2] ta) (hK : X.K = K := by rfl)
    (hs : starEach [e1, e2] X.env = (false, eval e1 X.env) :: starEach [e2] X.env := by rfl) (hpl : (backTo pos (starEach [e2] X.env)).any (·.1) = false := by rfl) :
    PI X (.Tuple elts kk tp) (.Call (.Name "zip" p) [e1, e2] [] pos) (iZipM K ta) := by
  subst hK
  refine ⟨fun pins s σ H R I h => Call_ (ld_blt I hg hm PyProof.Rows.boot_zip (PyProof.Rows.callWith_type1 (thn (ha.run pos pins s σ H _ I h) fun ms s1 ⟨vs, H1, I1, r1, q1⟩ => ?_) hs hpl))⟩
  obtain ⟨a, b, us, ws, rfl, hu, hw, q1⟩ := q1
  obtain ⟨m1, rest, rfl, ra, rr⟩ : ∃ m rest, ms = m :: rest ∧ RelV (.ref a) m ∧ Vals [.ref b] rest := by
    cases r1 with
    | cons r rr => exact ⟨_, _, rfl, r, rr⟩
  obtain ⟨m2, rfl, rb⟩ : ∃ m, rest = [m] ∧ RelV (.ref b) m := by
    cases rr with
    | cons r rr => cases rr; exact ⟨_, rfl, r⟩
  cases ra
  cases rb
  obtain ⟨its, rv1, p1, _⟩ := I1.tuple hu
  obtain ⟨ivs, rv2, p2, _⟩ := I1.list hw
  obtain ⟨o1, ho1, _⟩ := id p1
  refine zip_begins2 (begins_tuple a its.toArray) (begins_list b ivs.toArray) p1 p2.isList fun h' hz hp hq h1 h2 hsz hk => wpAny_pyIter_zip hz ?_
  refine ⟨s1.heap.objs.size + 4, [s1.heap.objs.size + 4, s1.heap.objs.size + 2, s1.heap.objs.size + 3, s1.heap.objs.size, s1.heap.objs.size + 1], _, _, H1, rfl, I1.kept (t' := s1.toks) hk, turn_zipM (PySem.W.ktu_apart s1.heap.objs.size a b (Heap.lt_size ho1) p2.lt), ⟨⟨hz, hp⟩, ⟨_, _, hq⟩, ⟨_, h1, rfl, rfl⟩, ⟨_, h2, rfl, rfl⟩⟩, fun c hc => ?_, q1⟩
  have hle : s1.heap.objs.size ≤ c := by
    simp only [List.mem_cons, List.not_mem_nil, or_false] at hc
    rcases hc with e | e | e | e | e <;> rw [e] <;> first | exact Nat.le_refl _ | exact Nat.le_add_right _ _
  exact I1.fpOk hle (I1.hok.fresh hle)
theorem walk_zipM {K : PySem.W.Frag} {a b : Addr} {us ws : List V} {n : Nat} (h1 : us.length = n) (h2 : ws.length = n) : Walk (ItzM K a b) n (fun H => SqT K H a us ∧ SqL K H b ws) (YPair (fun i => us[i]?) (fun i => ws[i]?)) where
  goes := fun i H hi ⟨hu, hw⟩ => ⟨us, ws, us[i], ws[i], ⟨hu, by simp⟩, hw, by simp⟩
  stops := fun H ⟨hu, hw⟩ => ⟨us, ws, hu, hw, .inl ⟨h1, by omega⟩⟩
  yields := fun i H x H' hi ⟨hu, hw⟩ ⟨T, x', y', ⟨e1, e2⟩, e3, e4, e5⟩ => ⟨T, x', y', e1, e2, e3, e4 _ hu, e5 _ hw⟩
end L2

set_option Elab.async false
set_option linter.all false
set_option maxRecDepth 100000
set_option maxHeartbeats 4000000
namespace L2
open PySem PySem.Spec PyProof.Rows

/-! ### heaps that grow; heaps that change at a few places -/
theorem same_new {H : Hp} {p : Addr} (h : H p = none) (o : HO) : Same H (upd H p o) := fun b u q => by rw [upd_ne (ne_of_none q h)]; exact q
theorem same_newT {H H1 : Hp} {p : Addr} (g : Same H H1) (h : H1 p = none) (o : HO) : Same H (upd H1 p o) := g.trans (same_new h o)
/-- an object that H does not know may change -/
theorem same_mut {H H1 : Hp} {p : Addr} (g : Same H H1) (h : H p = none) (o : HO) : Same H (upd H1 p o) := fun b u q => by rw [upd_ne (ne_of_none q h)]; exact g b u q
/-- all but the objects of M stay -/
def Keep (M : List Addr) (H H' : Hp) : Prop := ∀ b o, b ∉ M → H b = some o → H' b = some o
theorem Keep.refl (M : List Addr) (H : Hp) : Keep M H H := fun _ _ _ h => h
theorem Keep.trans {M : List Addr} {H H1 H2 : Hp} (a : Keep M H H1) (b : Keep M H1 H2) : Keep M H H2 := fun c o hc h => b c o hc (a c o hc h)
theorem Same.keep {M : List Addr} {H H' : Hp} (s : Same H H') : Keep M H H' := fun b o _ h => s b o h
theorem Keep.mono {M N : List Addr} {H H' : Hp} (k : Keep M H H') (h : ∀ b ∈ M, b ∈ N) : Keep N H H' := fun b o hb e => k b o (fun z => hb (h b z)) e
theorem keep_upd {M : List Addr} {H H1 : Hp} {p : Addr} (k : Keep M H H1) (h : p ∈ M) (o : HO) : Keep M H (upd H1 p o) := fun b u hb e => by
  have : b ≠ p := fun z => hb (z ▸ h)
  rw [upd_ne this]; exact k b u hb e
theorem keep_new {M : List Addr} {H H1 : Hp} {p : Addr} (k : Keep M H H1) (h : H p = none) (o : HO) : Keep M H (upd H1 p o) := fun b u hb e => by
  rw [upd_ne (ne_of_none e h)]; exact k b u hb e
theorem Keep.none {M : List Addr} {H H1 : Hp} {p : Addr} (k : Keep M H H1) (hp : p ∉ M) (h : H1 p = none) : H p = none := by
  cases q : H p with
  | none => rfl
  | some o => rw [k p o hp q] at h; cases h
/-- tuples stay -/
def TSame (H H' : Hp) : Prop := ∀ b xs, Rd H b (.tup xs) → Rd H' b (.tup xs)
theorem TSame.refl (H : Hp) : TSame H H := fun _ _ h => h
theorem TSame.trans {H H1 H2 : Hp} (a : TSame H H1) (b : TSame H1 H2) : TSame H H2 := fun c o h => b c o (a c o h)
theorem Same.ts {H H' : Hp} (s : Same H H') : TSame H H' := fun b xs h => h.elim (fun h => .inl (s _ _ h)) fun ⟨o, h⟩ => .inr ⟨o, s _ _ h⟩
theorem Keep.ts {M : List Addr} {H H' : Hp} (k : Keep M H H') (h : ∀ b ∈ M, ∃ xs, H b = some (.lst xs)) : TSame H H' := by
  intro b xs hb
  by_cases hm : b ∈ M
  · obtain ⟨ys, e⟩ := h b hm
    rcases hb with hb | ⟨o, hb⟩ <;> rw [e] at hb <;> cases hb
  · exact hb.elim (fun h => .inl (k _ _ hm h)) fun ⟨o, h⟩ => .inr ⟨o, k _ _ hm h⟩
theorem ts_lst {H H1 : Hp} {p : Addr} {xs : List V} (g : TSame H H1) (h : H1 p = some (.lst xs)) (o : HO) : TSame H (upd H1 p o) := fun b zs hb => by
  have h1 := g b zs hb
  have : b ≠ p := fun z => by subst z; rcases h1 with h1 | ⟨o, h1⟩ <;> rw [h] at h1 <;> cases h1
  rcases h1 with h1 | ⟨o', h1⟩
  · exact .inl (by rw [upd_ne this]; exact h1)
  · exact .inr ⟨o', by rw [upd_ne this]; exact h1⟩
theorem ts_new {H H1 : Hp} {p : Addr} (g : TSame H H1) (h : H1 p = none) (o : HO) : TSame H (upd H1 p o) := g.trans (Same.ts (same_new h o))
theorem SqT.ts {K : PySem.W.Frag} {H H' : Hp} {a : Addr} {xs : List V} (e : TSame H H') (h : SqT K H a xs) : SqT K H' a xs := h.elim (fun h => .inl (e _ _ h)) .inr
theorem SqT.same {K : PySem.W.Frag} {H H' : Hp} {a : Addr} {xs : List V} (e : Same H H') (h : SqT K H a xs) : SqT K H' a xs := SqT.ts (Same.ts e) h

/-! ### data -/
mutual
/-- no list in it -/
def noL : PyData → Bool
  | .list _ => false
  | .tuple xs => noLs xs
  | .dict _ => false
  | _ => true
def noLs : List PyData → Bool
  | [] => true
  | d :: ds => noL d && noLs ds
end
section
variable {K : PySem.W.Frag} {H H' : Hp}
mutual
theorem Dp.same (e : Same H H') : ∀ {v : V} {d : PyData}, Dp K H v d → Dp K H' v d
  | _, _, .non => .non
  | _, _, .bl b => .bl b
  | _, _, .int i => .int i
  | _, _, .str x => .str x
  | _, _, .lst h hs => .lst (e.seq h) (DpAll.same e hs)
  | _, _, .tup h hs => .tup (SqT.same e h) (DpAll.same e hs)
theorem DpAll.same (e : Same H H') : ∀ {vs : List V} {ds : List PyData}, DpAll K H vs ds → DpAll K H' vs ds
  | _, _, .nil => .nil
  | _, _, .cons h hs => .cons (Dp.same e h) (DpAll.same e hs)
end
mutual
theorem Dp.ts (e : TSame H H') : ∀ {d : PyData} {v : V}, noL d = true → Dp K H v d → Dp K H' v d
  | _, _, _, .non => .non
  | _, _, _, .bl b => .bl b
  | _, _, _, .int i => .int i
  | _, _, _, .str x => .str x
  | .list _, _, n, .lst h hs => by simp [noL] at n
  | .tuple ds, _, n, .tup h hs => .tup (SqT.ts e h) (DpAll.ts e (by simpa [noL] using n) hs)
theorem DpAll.ts (e : TSame H H') : ∀ {ds : List PyData} {vs : List V}, noLs ds = true → DpAll K H vs ds → DpAll K H' vs ds
  | [], _, _, .nil => .nil
  | d :: ds, _, n, .cons h hs => by
    have n' : noL d = true ∧ noLs ds = true := by simpa [noLs] using n
    exact .cons (Dp.ts e n'.1 h) (DpAll.ts e n'.2 hs)
end
theorem Dp.tupI {v : V} {ds : List PyData} (h : Dp K H v (.tuple ds)) : ∃ a xs, v = .ref a ∧ SqT K H a xs ∧ DpAll K H xs ds := by
  cases h with
  | tup hs ha => exact ⟨_, _, rfl, hs, ha⟩
theorem Dp.lstI {v : V} {ds : List PyData} (h : Dp K H v (.list ds)) : ∃ a xs, v = .ref a ∧ SqL K H a xs ∧ DpAll K H xs ds := by
  cases h with
  | lst hs ha => exact ⟨_, _, rfl, hs, ha⟩
theorem Dp.strI {v : V} {x : Str} (h : Dp K H v (.str x)) : v = .str x := by cases h; rfl
theorem Dp.intI {v : V} {i : Int} (h : Dp K H v (.int i)) : v = .int i := by cases h; rfl
theorem Dp.nonI {v : V} (h : Dp K H v .none) : v = .non := by cases h; rfl
theorem DpAll.nilI {vs : List V} (h : DpAll K H vs []) : vs = [] := by cases h; rfl
theorem DpAll.consI {vs : List V} {d : PyData} {ds : List PyData} (h : DpAll K H vs (d :: ds)) : ∃ v r, vs = v :: r ∧ Dp K H v d ∧ DpAll K H r ds := by
  cases h with
  | cons h1 h2 => exact ⟨_, _, rfl, h1, h2⟩
theorem DpAll.len : ∀ {vs : List V} {ds : List PyData}, DpAll K H vs ds → vs.length = ds.length
  | _, _, .nil => rfl
  | _, _, .cons _ hs => by simp [DpAll.len hs]
theorem DpAll.get : ∀ {vs : List V} {ds : List PyData} {i : Nat} {v : V}, DpAll K H vs ds → vs[i]? = some v → ∃ d, ds[i]? = some d ∧ Dp K H v d
  | _, _, _, _, .nil, e => by simp at e
  | _, _, 0, _, .cons h _, e => by simp at e; subst e; exact ⟨_, rfl, h⟩
  | _, _, i + 1, v, .cons _ hs, e => by
    obtain ⟨d, h1, h2⟩ := DpAll.get (i := i) (v := v) hs (by simpa using e)
    exact ⟨d, by simpa using h1, h2⟩
theorem DpAll.getD : ∀ {vs : List V} {ds : List PyData} {i : Nat} {d : PyData}, DpAll K H vs ds → ds[i]? = some d → ∃ v, vs[i]? = some v ∧ Dp K H v d
  | _, _, _, _, .nil, e => by simp at e
  | _, _, 0, _, .cons h _, e => by simp at e; subst e; exact ⟨_, rfl, h⟩
  | _, _, i + 1, d, .cons _ hs, e => by
    obtain ⟨v, h1, h2⟩ := DpAll.getD (i := i) (d := d) hs (by simpa using e)
    exact ⟨v, by simpa using h1, h2⟩
theorem DpAll.append : ∀ {vs ws : List V} {ds es : List PyData}, DpAll K H vs ds → DpAll K H ws es → DpAll K H (vs ++ ws) (ds ++ es)
  | _, _, _, _, .nil, s => s
  | _, _, _, _, .cons h hs, s => .cons h (DpAll.append hs s)
theorem DpAll.appI : ∀ {ds es : List PyData} {vs : List V}, DpAll K H vs (ds ++ es) → ∃ us ws, vs = us ++ ws ∧ DpAll K H us ds ∧ DpAll K H ws es
  | [], _, vs, h => ⟨[], vs, rfl, .nil, h⟩
  | d :: ds, es, _, .cons h hs => by
    obtain ⟨us, ws, rfl, h1, h2⟩ := DpAll.appI (ds := ds) (es := es) hs
    exact ⟨_ :: us, ws, rfl, .cons h h1, h2⟩
theorem DpAll.snoc {vs : List V} {ds : List PyData} {v : V} {d : PyData} (h : DpAll K H vs ds) (hv : Dp K H v d) : DpAll K H (vs ++ [v]) (ds ++ [d]) := h.append (.cons hv .nil)
theorem DpAll.set : ∀ {vs : List V} {ds : List PyData} {v : V} {d : PyData} (i : Nat), DpAll K H vs ds → Dp K H v d → DpAll K H (vs.set i v) (ds.set i d)
  | _, _, _, _, _, .nil, _ => .nil
  | _, _, _, _, 0, .cons _ hs, hv => .cons hv hs
  | _, _, _, _, i + 1, .cons h hs, hv => .cons h (DpAll.set i hs hv)
theorem DpAll.take : ∀ {vs : List V} {ds : List PyData} (n : Nat), DpAll K H vs ds → DpAll K H (vs.take n) (ds.take n)
  | _, _, 0, _ => .nil
  | _, _, _ + 1, .nil => .nil
  | _, _, n + 1, .cons h hs => .cons h (DpAll.take n hs)
theorem DpAll.drop : ∀ {vs : List V} {ds : List PyData} (n : Nat), DpAll K H vs ds → DpAll K H (vs.drop n) (ds.drop n)
  | _, _, 0, h => h
  | _, _, _ + 1, .nil => .nil
  | _, _, n + 1, .cons _ hs => DpAll.drop n hs
theorem Dp.ofT {a : Addr} {xs : List V} {ds : List PyData} (h : H a = some (.tup xs)) (hs : DpAll K H xs ds) : Dp K H (.ref a) (.tuple ds) := .tup (SqT.of h) hs
theorem Dp.ofL {a : Addr} {xs : List V} {ds : List PyData} (h : H a = some (.lst xs)) (hs : DpAll K H xs ds) : Dp K H (.ref a) (.list ds) := .lst (SqL.of h) hs
/-- a new tuple -/
theorem Dp.newT {p : Addr} {xs : List V} {ds : List PyData} (hp : H p = none) (hs : DpAll K H xs ds) : Dp K (upd H p (.tup xs)) (.ref p) (.tuple ds) := .ofT upd_same (DpAll.same (same_new hp _) hs)
theorem Dp.newL {p : Addr} {xs : List V} {ds : List PyData} (hp : H p = none) (hs : DpAll K H xs ds) : Dp K (upd H p (.lst xs)) (.ref p) (.list ds) := .ofL upd_same (DpAll.same (same_new hp _) hs)
theorem DpAll.str : ∀ {xs : List Str}, DpAll K H (xs.map V.str) (xs.map PyData.str)
  | [] => .nil
  | x :: xs => .cons (.str x) DpAll.str
theorem DpAll.int : ∀ {xs : List Int}, DpAll K H (xs.map V.int) (xs.map PyData.int)
  | [] => .nil
  | x :: xs => .cons (.int x) DpAll.int
end
/-! ### isinstance -/
theorem isi_at {K : PySem.W.Frag} {H : Hp} {x : V} {a c : String} {b : Bool} {Q : VK} (ht : TyX K H x (.type a)) (hk : kitB a c = some b) (q : Q (.bl b) H) : rIsi K [x, .ty c] H Q := ⟨x, .ty c, .type a, .type c, b, rfl, .ty c, ht, kit_ty hk, q⟩
theorem tyT {K : PySem.W.Frag} {H : Hp} {a : Addr} {xs : List V} (h : SqT K H a xs) : TyX K H (.ref a) (.type "tuple") := by
  rcases h with (h | ⟨o, h⟩) | ⟨o, _, _, h, hc, _⟩
  · exact .base (.tup h)
  · exact .fTuple h
  · exact .kTuple h hc
theorem tyL {K : PySem.W.Frag} {H : Hp} {a : Addr} {xs : List V} (h : SqL K H a xs) : TyX K H (.ref a) (.type "list") := by
  rcases h with (h | ⟨o, h⟩) | ⟨o, _, _, h, hc, _⟩
  · exact .base (.lst h)
  · exact .base (.frz h)
  · exact .kList h hc
theorem iteP {c A B : Prop} [Decidable c] (hc : c) (h : A) : if c then A else B := by rw [if_pos hc]; exact h
theorem iteN {c A B : Prop} [Decidable c] (hc : ¬ c) (h : B) : if c then A else B := by rw [if_neg hc]; exact h
theorem iteS {k z : Str} {A B : Prop} (h1 : k = z → A) (h2 : ¬ k = z → B) : if V.str k = V.str z then A else B := by
  by_cases h : k = z
  · rw [if_pos (by rw [h])]; exact h1 h
  · rw [if_neg (fun e => h (V.str.inj e))]; exact h2 h
theorem strne {k z : Str} (h : ¬ k = z) : ¬ V.str k = V.str z := fun e => h (V.str.inj e)
theorem inV_str {k : Str} : ∀ {zs : List Str}, (inV (.str k) (zs.map V.str) = true) ↔ k ∈ zs
  | [] => by simp [inV]
  | z :: zs => by
    have ih := inV_str (k := k) (zs := zs)
    unfold inV at ih ⊢
    simp only [List.map_cons, List.any_cons, Bool.or_eq_true, List.mem_cons, ih]
    have : (eqV (V.str z) (V.str k) = true) ↔ k = z := by
      show ((z == k) = true) ↔ _
      rw [beq_iff_eq]
      exact ⟨Eq.symm, Eq.symm⟩
    rw [this]
theorem szl {n : Nat} (h : n ≤ 1000000) : n ≤ sizeLine := Nat.le_trans h (by decide)
theorem szlt {n : Nat} (h : n < 1000000) : n < sizeLine := Nat.lt_of_lt_of_le h (by decide)
theorem at_last {v : V} {xs : List V} : atI (xs ++ [v]) (-1) = some v := by
  have e : ixN (xs ++ [v]).length (-1) = some xs.length := by
    simp [ixN]
    omega
  unfold atI
  rw [e]
  simp
theorem cut_last {v : V} {xs : List V} : cutV (xs ++ [v]) none (some (-1)) = xs := by
  have e1 : HT.sIx (xs ++ [v]).length 0 none = 0 := rfl
  have e2 : HT.sIx (xs ++ [v]).length (xs ++ [v]).length (some (-1)) = xs.length := by
    simp [HT.sIx]
    omega
  unfold cutV
  rw [e1, e2]
  simp
theorem cut_to {xs : List V} {i : Int} (h : 0 ≤ i) : cutV xs none (some i) = xs.take i.toNat := by
  have e1 : HT.sIx xs.length 0 none = 0 := rfl
  have e2 : HT.sIx xs.length xs.length (some i) = min i.toNat xs.length := by
    have : ¬ i < 0 := by omega
    simp [HT.sIx, this]
  unfold cutV
  rw [e1, e2, List.drop_zero, Nat.sub_zero]
  rcases Nat.le_total i.toNat xs.length with h1 | h1
  · rw [Nat.min_eq_left h1]
  · rw [Nat.min_eq_right h1, List.take_length, List.take_of_length_le h1]
theorem cut_from1 {xs : List V} : cutV xs (some 1) none = xs.drop 1 := by
  have e2 : HT.sIx xs.length xs.length none = xs.length := rfl
  unfold cutV
  rw [e2]
  cases xs with
  | nil => rfl
  | cons x xs =>
    have e1 : HT.sIx (x :: xs).length 0 (some 1) = 1 := by simp [HT.sIx]
    rw [e1]
    simp
theorem at0 {v : V} {xs : List V} : atI (v :: xs) 0 = some v := at_of (j := 0) rfl rfl
theorem at1 {v w : V} {xs : List V} : atI (v :: w :: xs) 1 = some w := at_of (j := 1) rfl rfl
theorem at2 {v w u : V} {xs : List V} : atI (v :: w :: u :: xs) 2 = some u := at_of (j := 2) rfl rfl
end L2

set_option Elab.async false
set_option linter.all false
set_option maxRecDepth 100000
set_option maxHeartbeats 4000000
/-! own errors: class E(LimitError): def __init__(self, p): super().__init__(txt); self.f = p -/
namespace PySem
namespace OwnX
open PySem.W PySem.Calls PyProof.Rows PySem.HandSPX
def xA (pn : Str) (p1 p2 : Pos) : Arguments := { posonlyargs := [], args := [{ arg := "self", annotation := none, pos := p1 }, { arg := pn, annotation := none, pos := p2 }], vararg := none, kwonlyargs := [], kw_defaults := [], kwarg := none, defaults := [] }
def xB (txt f pn : Str) (k : Nat) (a b c d e q a1 b1 c1 d1 : Pos) : List Stmt :=
  [.Expr (.Call (.Attribute (.Call (.Name "super" a) [] [] b) "__init__" c) [.Constant (.str txt) k d] [] e) q, .Assign [.Attribute (.Name "self" a1) f b1] (.Name pn c1) d1]
def xS (pn : Str) : Scope := { kind := .function, names := [(PySem.Str.ofString "self", .local), (pn, .local), (PySem.Str.ofString "__class__", .free), (PySem.Str.ofString "super", .globalImplicit)], isGenerator := false, isCoroutine := false, more := [] }
/-- what a parameter's name must allow (all by rfl, once it is known) -/
structure Word (pn : Str) : Prop where
  bnd : ∀ (q : Str) (p1 p2 : Pos) (bd : List Stmt) (doc pm : Value) (an : Option Addr) (cdv ct : Value) (cc : Addr) (u v : Value), bindArgs (ksFn "__init__" q (xA pn p1 p2) bd (xS pn) .none .none doc pm an cdv ct cc) ⟨[u, v], []⟩ = pure [((("self" : Str)), u), (pn, v)]
  kS : (xS pn).names.lookup ("super" : Str) = some .globalImplicit
  kC : (xS pn).names.lookup ("__class__" : Str) = some .free
  kF : (xS pn).names.lookup ("self" : Str) = some .local
  kP : (xS pn).names.lookup pn = some .local
  dbg : (pn == ("__debug__" : Str)) = false
  ne : pn ≠ ("self" : Str)
/-- what the written part says of an error class C whose __init__ (at fI) is written in class D -/
structure Txt (P : Program) (K : Frag) (C D fI : Addr) (q f pn : Str) : Prop where
  cls : ∃ nm q' N bs bm sn sub ab col dd k0 k1 k2 k3 k5, K.lookup C = some (excClassObj nm q' C N bs bm true sn sub ab col dd k0 k1 k2 k3 k5 "ValueError.__new__") ∧ refsVE bm = true
  fn : ∃ (oc : Value) (od : Option Addr) (doc pm : Value) (an : Option Addr) (cda cc : Addr) (ct : Value) (osl : Array (Option Value)) (txt : Str) (k : Nat) (p1 p2 a b c d e q' a1 b1 c1 d1 : Pos),
    (c.endLine == e.line) = true ∧ K.lookup fI = some ⟨oc, od, .func (ksFn "__init__" q (xA pn p1 p2) (xB txt f pn k a b c d e q' a1 b1 c1 d1) (xS pn) .none .none doc pm an (.ref cda) ct cc), osl⟩ ∧ codeIn K (.ref cda) q = true ∧
    (∃ ccl cdd vs ccs file tf, K.lookup cda = some ⟨ccl, cdd, .fields vs, ccs⟩ ∧ vs[2]? = some (.str file tf) ∧ ((P.main.file : Str) == file) = true) ∧
    (∃ cl cld csl, K.lookup cc = some ⟨cl, cld, .cell (some (.ref D)), csl⟩)
  ini : excInitIn K C veTail "ValueError.__new__" = true
  sa : findIn K (.ref C) "__setattr__" = some (some (.builtin "object.__setattr__"))
  noN : findIn K (.ref C) f = some none
  hD : (clsIn K D).isSome = true
  subD : mroIn K C (.ref D) = some true
  subV : subIn K (.ref C) (.type "ValueError") = some true
  opq : nsIn K cStatics "thirdparty.any" = some none
  sup : ks_superIn K C D "__init__" = some (some (.builtin "ValueError.__init__"))
  top : (P.main.scope.names.lookup ("super" : Str)).isSome = false
  wd : Word pn
/-- what an __init__ leaves of a fresh exception at x -/
structure InitEnd (h h' : Heap) (x C dx t1 : Addr) (f : Str) (v : Value) : Prop where
  keep : ∀ b o, b ≠ x → h.get? b = some o → h'.get? b = some o
  obj : h'.get? x = some { cls := .ref C, dict := some dx, data := .fields #[.ref t1, .none, .none, .none, .bool false, .none] }
  dbig : h.objs.size ≤ dx
  dne : dx ≠ x
  ns : h'.Ns1 dx (fun y => if y = f then some v else none)
theorem one_small (v : Value) : [v].length ≤ sizeLine := by
  rw [sizeLine_eq]
  exact (by decide : 1 ≤ 16777216)
section
variable {P : Program} {w : World} {A : Around} {E : Value → Shared → Prop} {R : Result → Shared → Prop} {s : Shared} {K : Frag} {C D fI : Addr} {q f pn : Str}
theorem xinit (T : Txt P K C D fI q f pn) {x t0 : Addr} {v : Value} {mg mb : Str → Option Value} (X : K.In s.heap) (hg : s.heap.Ns mainGlobals mg) (hm : mg "super" = none) (hb : s.heap.Ns builtinsNs mb) (hmb : mb "super" = bootBuiltins "super")
    (hlim : s.heap.NoLimit) (hx : s.heap.get? x = some (excO C t0)) (hnx : K.lookup x = none) (hroom : A.depth < recursionLimit)
    (hq : ∀ h' tk dx t1, InitEnd s.heap h' x C dx t1 f v → R (.ok (.ret .none)) { s with heap := h', toks := tk }) :
    codeAny (model P w) A (.call (.ref fI) ⟨[.ref x, v], []⟩) R s := by
  obtain ⟨oc, od, doc, pm, an, cda, cc, ct, osl, txt, k, p1, p2, a, b, c, d, e, q', a1, b1, c1, d1, hpos, ho, hcd, ⟨ccl, cdd, vs, ccs, file, tf, hcode, hvs, hfile⟩, cl, cld, csl, hcell⟩ := T.fn
  obtain ⟨nm, qq, N, bs, bm, sn, sub, ab, col, dd, k0, k1, k2, k3, k5, hC, hbm⟩ := T.cls
  have hcl : clsIn K C = some { name := nm, bases := bs, mro := .ref C :: bm, ns := N, qualname := qq, hasDict := true, slotNames := sn, subclasses := sub, abstract := ab, collection := col, hasDel := false } := by unfold clsIn; rw [hC] <;> rfl
  obtain ⟨cdD, hD⟩ := Option.isSome_iff_exists.mp T.hD
  have X₁ : ∀ h' : Heap, (∀ b o, s.heap.get? b = some o → h'.get? b = some o) → K.In h' := fun h' k => X.keeps k
  refine ks_codeAny_call_defAt (fd := ksFn "__init__" q (xA pn p1 p2) (xB txt f pn k a b c d e q' a1 b1 c1 d1) (xS pn) .none .none doc pm an (.ref cda) ct cc) (binds := [(("self" : Str), .ref x), (pn, v)]) hroom (X _ _ ho) rfl hlim (codeRec_of X hcd) rfl
    (BindsTo.of_eq (T.wd.bnd _ _ _ _ _ _ _ _ _ _ _ _)) ?_ ?_ (fun h₁ hns k₁ => ?_)
  · intro z hz
    simp only [xS, List.mem_cons, List.not_mem_nil, or_false] at hz
    rcases hz with rfl | rfl | rfl | rfl <;> exact fun z => by cases z
  · intro z hz
    simp only [List.mem_cons, List.not_mem_nil, or_false] at hz
    rcases hz with rfl | rfl
    · exact T.wd.kF
    · exact T.wd.kP
  have hx₁ := k₁ _ _ hx
  have X1 := X₁ h₁ k₁
  obtain ⟨oD, hD1, hD2⟩ : ∃ oD, h₁.get? D = some oD ∧ oD.data = .cls cdD := by
    unfold clsIn at hD
    split at hD
    · rename_i c d cd' sl hoD
      cases hD
      exact ⟨_, X1 _ _ hoD, rfl⟩
    · cases hD
  have lS : (fun y => ([("self", .ref x), (pn, v)] : List (Str × Value)).reverse.lookup y) "self" = some (.ref x) := by
    show List.lookup (Str.ofString "self") [(pn, v), (Str.ofString "self", .ref x)] = _
    simp only [List.lookup]
    rw [show (Str.ofString "self" == pn) = false from by simpa using Ne.symm T.wd.ne]
    simp
  have lP : (fun y => ([("self", .ref x), (pn, v)] : List (Str × Value)).reverse.lookup y) pn = some v := by
    show List.lookup pn [(pn, v), (Str.ofString "self", .ref x)] = _
    simp [List.lookup]
  have he : ∀ env : Env, eval (.Call (.Attribute (.Call (.Name "super" a) [] [] b) "__init__" c) [.Constant (.str txt) k d] [] e) env = (do
      let ov ← attributeBase (.Call (.Name "super" a) [] [] b) "__init__" env (eval (.Call (.Name "super" a) [] [] b) env)
      standAt c.atName
      let (f, first) ← holding [ov] (getMethod ov "__init__" (do return (← importBound (.Call (.Name "super" a) [] [] b) env).getD true))
      callWith e f first (backTo e (starEach [.Constant (.str txt) k d] env)) []) := fun env => by
    rw [eval]
    unfold methodCall calleeOf methodCallPos
    rw [hpos]
    rfl
  refine ks_wpAt_execs_cons (ks_wpAt_Expr_any (ks_wpAt_MethodCall ?_ (he _)))
  refine ks_wpAt_super_base (env := ksEnv q (xS pn) s.heap.objs.size fI (.ref cda) cc) T.wd.kS T.wd.kC (by decide) rfl (X1 _ _ ho) rfl rfl rfl (X1 _ _ hcode) rfl hvs hfile T.top ?_
  refine ks_loadName_global rfl T.wd.kS (loadGlobal_builtin (env := ksEnv q (xS pn) s.heap.objs.size fI (.ref cda) cc) (hg.keeps k₁) hm (hb.keeps k₁) (hmb.trans (by first | boot_by_name | rfl | kernel_rfl)) ⟨rfl, ?_⟩)
  refine wpAny_loadName_free rfl T.wd.kC rfl ⟨_, X1 _ _ hcell, rfl⟩ ?_
  refine wpAny_loadName_local rfl T.wd.kF hns lS ?_
  refine ks_wpAny_isType_cls hD1 hD2 ⟨rfl, ?_⟩
  have xd : ∀ cc, (excO C t0).data ≠ .cls cc := fun cc z => by cases z
  refine ks_wpAny_call_super hD1 hD2 hx₁ rfl xd (looks_mroIn X1 T.subD) (fun h₂ e₂ k₂ => ?_)
  have X2 : K.In h₂ := X1.keeps k₂
  have hx₂ := k₂ _ _ hx₁
  have hal : alongIn K "__init__" (((.ref C :: bm : List Value).dropWhile (· != .ref D)).drop 1) = some (some (.builtin "ValueError.__init__")) := by
    have z := T.sup
    unfold ks_superIn at z
    rw [hcl] at z
    exact z
  have I2 : InstAt h₂ x (excO C t0) C none := ⟨hx₂, rfl, rfl, trivial⟩
  have hI : Looks (model P w) h₂ (isInstance (.ref x) (.type "ValueError")) true := I2.type.andThen (looks_subIn X2 T.subV)
  refine kxs_getMethod kxs_ValueError e₂ (looks_opaque X2 T.opq) (l₀ := .ref C :: bm) ?_ rfl X2 hal hI (ks_ne X2 I2 hcl) (by decide) ?_
  · exact fun A Q E s k q => wpAny_bind ((looks_clsIn X2 hcl) A _ E s k (wpAny_pure q))
  refine kxs_callWith (i := "ValueError.__init__") (x := x) rfl ?_
  refine evalArgs_plain (spliced_cons (Constant_str (k := k) (pos := d) (spliced_nil ?_)))
  have k₃ : ∀ b o, h₂.get? b = some o → (h₂.push (kxs_mw "ValueError.__init__" x)).get? b = some o := fun b o z => Heap.get?_push_of_some _ z
  refine ⟨Heap.get?_push_at rfl rfl, ?_⟩
  have kk : ∀ b o, s.heap.get? b = some o → (h₂.push (kxs_mw "ValueError.__init__" x)).get? b = some o := fun b o z => k₃ _ _ (k₂ _ _ (k₁ _ _ z))
  have nL : s.heap.objs.size ≠ x := Nat.ne_of_gt (Heap.lt_size hx)
  have hid : ∀ b o, (hideAll s.heap [x]).get? b = some o → (h₂.push (kxs_mw "ValueError.__init__" x)).get? b = some o := fun b o z => kk b o (of_hideAll _ z)
  have FF : Fr (hideAll s.heap [x]) s.heap.objs.size (h₂.push (kxs_mw "ValueError.__init__" x)) (fun y => ([(("self" : Str), .ref x), (pn, v)] : List (Str × Value)).reverse.lookup y) := ⟨(hns.keeps k₂).keeps k₃, hid, Nat.le_of_eq (hideAll_size _ _)⟩
  have zL : s.heap.objs.size < h₁.objs.size := hns.lt
  have zL2 : h₁.objs.size < h₂.objs.size := Heap.lt_size e₂
  have hxn : ∀ b, s.heap.objs.size ≤ b → (hideAll s.heap [x]).get? b = none := fun b hb => by
    cases z : (hideAll s.heap [x]).get? b with
    | none => rfl
    | some o => exact absurd (Heap.lt_size (of_hideAll _ z)) (Nat.not_lt.mpr hb)
  have NN : News (hideAll s.heap [x]) s.heap.objs.size (h₂.push (kxs_mw "ValueError.__init__" x)) [(x, excObj C t0 none .none), (h₂.objs.size, kxs_mw "ValueError.__init__" x)] := by
    intro p hp
    rcases List.mem_cons.mp hp with rfl | hp
    · exact ⟨k₃ _ _ hx₂, Ne.symm nL, hideAll_none _ (by simp)⟩
    · rcases List.mem_cons.mp hp with rfl | hp
      · refine ⟨Heap.get?_push_at rfl rfl, ?_, hxn _ (Nat.le_of_lt (Nat.lt_trans zL zL2))⟩
        exact Nat.ne_of_gt (Nat.lt_trans zL zL2)
      · cases hp
  have XH : K.In (hideAll s.heap [x]) := fun a o z => hideAll_get _ (X a o z) (by
    intro hm
    rw [List.mem_singleton] at hm
    rw [hm, hnx] at z
    cases z)
  have nxu : h₂.objs.size ≠ x := Nat.ne_of_gt (Heap.lt_size hx₂)
  have U : UpdF x (excObj C t0 none .none) [(x, excObj C t0 none .none), (h₂.objs.size, kxs_mw "ValueError.__init__" x)] (fun o' => (x, o') :: [(h₂.objs.size, kxs_mw "ValueError.__init__" x)]) := .head fun p hp => by
    rcases List.mem_cons.mp hp with rfl | hp
    · exact nxu
    · cases hp
  refine kxs_call (m := fun y => ([(("self" : Str), .ref x), (pn, v)] : List (Str × Value)).reverse.lookup y) FF XH NN F.excBase_ValueError T.ini (by simp) U (one_small _) (fun t' h₄ F4 N4 _ => ?_)
  have hx4 : h₄.get? x = some (excObj C t' none .none) := (N4 _ (List.mem_cons_of_mem _ List.mem_cons_self)).1
  have X4 : K.In h₄ := XH.keeps F4.keep
  refine ks_wpAt_execs_cons (wpAt_of_wpAny (plainObj_wpAny_Assign_Attribute ?_))
  refine wpAny_Name (wpAny_loadName_local rfl T.wd.kP F4.ns lP ?_) T.wd.dbg
  refine wpAny_Name (wpAny_loadName_local rfl T.wd.kF F4.ns lS ?_) (by decide)
  refine set_plain X4 (ox := excO C t') (od := none) ⟨hx4, rfl, rfl, trivial⟩ T.sa ?_
  refine exc_osa X4 hx4 hcl (show refsVE (.ref C :: bm) = true from hbm) rfl T.noN (fun h5 tk5 dx k5' dn dne hx5 hn5 => ?_)
  refine wpAt_of_wpAny (wpAny_execs_nil (hq h5 tk5 dx t' ⟨fun b o hb e => k5' b o hb (F4.keep b o (hideAll_get _ e (by simpa using hb))), hx5, ?_, dne, hn5⟩))
  exact Nat.le_trans (Nat.le_of_lt F4.ns.lt) dn
/-- a made error: at e, of class C, its own dict d holds the field -/
structure Made (h h' : Heap) (e C d : Addr) (f : Str) (v : Value) : Prop where
  keep : ∀ b o, h.get? b = some o → h'.get? b = some o
  new : h.objs.size ≤ e
  obj : ∃ oe vs, h'.get? e = some oe ∧ oe.cls = .ref C ∧ oe.dict = some d ∧ oe.data = .fields vs ∧ vs[1]? = some .none ∧ vs[2]? = some .none
  dbig : h.objs.size ≤ d
  dne : d ≠ e
  ns : h'.Ns1 d (fun y => if y = f then some v else none)
theorem xmade (T : Txt P K C D fI q f pn) (iC : findIn K (.ref C) "__init__" = some (some (.ref fI))) (tC : typeIn K (.ref fI) = some (.type "function")) {v : Value} {mg mb : Str → Option Value} (X : K.In s.heap)
    (hg : s.heap.Ns mainGlobals mg) (hm : mg "super" = none) (hb : s.heap.Ns builtinsNs mb) (hmb : mb "super" = bootBuiltins "super") (hlim : s.heap.NoLimit) (hroom : A.depth + 1 < recursionLimit)
    (hq : ∀ h' tk e d, Made s.heap h' e C d f v → R (.ok (.ret (.ref e))) { s with heap := h', toks := tk }) :
    codeAny (model P w) A (.call (.ref C) ⟨[v], []⟩) R s := by
  obtain ⟨nm, qq, N, bs, bm, sn, sub, ab, col, dd, k0, k1, k2, k3, k5, hC, hbm⟩ := T.cls
  obtain ⟨hp, g, dr, tk, os⟩ := s
  have k : ∀ b o, hp.get? b = some o → ((hp.push (kdv_tup [v])).push (excO C hp.objs.size)).get? b = some o := fun b o e => Heap.get?_push_of_some _ (Heap.get?_push_of_some _ e)
  have hget : ((hp.push (kdv_tup [v])).push (excO C hp.objs.size)).get? (hp.objs.size + 1) = some (excO C hp.objs.size) := by heap_get
  have hnx : K.lookup (hp.objs.size + 1) = none := by
    cases e : K.lookup (hp.objs.size + 1) with
    | none => rfl
    | some o =>
      have z : hp.get? (hp.objs.size + 1) = some o := X _ _ e
      exact absurd (Nat.lt_of_succ_lt (Heap.lt_size z)) (Nat.lt_irrefl _)
  refine call_own F.excBase_ValueError (fun X => refsVE_contains X bm hbm) (X _ _ hC) (looks_findIn X iC) (fun self => bind_fn X self tC) (one_small v) ?_
  refine xinit (s := ⟨(hp.push (kdv_tup [v])).push (excO C hp.objs.size), g, dr, tk, os⟩) T (X.keeps k) (hg.keeps k) hm (hb.keeps k) hmb (hlim.keeps k) hget hnx ?_ fun h' tk' dx t1 ⟨k', hx, dn, dne, hns⟩ => ?_
  · show A.depth + 1 < recursionLimit
    exact hroom
  · have old : ∀ b o, hp.get? b = some o → h'.get? b = some o := fun b o e => k' b o (Nat.ne_of_lt (Nat.lt_succ_of_lt (Heap.lt_size e))) (k b o e)
    have z : hp.objs.size + 1 + 1 ≤ dx := by
      have q := dn
      rw [Heap.size_push, Heap.size_push] at q
      exact q
    exact ⟨rfl, hq h' tk' (hp.objs.size + 1) dx ⟨old, Nat.le_succ _, ⟨_, _, hx, rfl, rfl, rfl, rfl, rfl⟩, Nat.le_trans (Nat.le_trans (Nat.le_succ _) (Nat.le_succ _)) z, dne, hns⟩⟩
end
end OwnX
end PySem
namespace L2
open PySem PySem.Spec PyProof.Rows
theorem relO_one {v : V} {v' : Value} (r : RelV v v') (f g : Str) : RelO (List.lookup g [(f, v)]) (if g = f then some v' else none) := by
  by_cases hw : g = f
  · subst hw
    rw [if_pos rfl]
    have q : List.lookup g [(g, v)] = some v := by simp [List.lookup]
    rw [q]
    exact r
  · rw [if_neg hw]
    have qw : (g == f) = false := by simpa using hw
    have q2 : List.lookup g [(f, v)] = none := by simp [List.lookup, qw]
    rw [q2]
    trivial
/-- an error class of one field, named nm at the top, at C: what the top has written of it -/
structure XCls (P : Program) (K : PySem.W.Frag) (mg : Str → Option Value) (nm : Str) (C : Addr) (f : Str) : Prop where
  gC : mg nm = some (.ref C)
  how : ∃ D fI q pn, PySem.OwnX.Txt P K C D fI q f pn ∧ PySem.W.findIn K (.ref C) "__init__" = some (some (.ref fI)) ∧ PySem.W.typeIn K (.ref fI) = some (.type "function")
  kC : PySem.W.keepIn K (.ref C) = true
  exC : PySem.W.subIn K (.ref C) (.type "BaseException") = some true
  tyC : PySem.W.typeIn K (.ref C) = some (.type "type")
  ga : PySem.W.findIn K (.ref C) "__getattribute__" = some (some (.builtin "BaseException.__getattribute__"))
  gg : PySem.W.findIn K (.ref C) "__getattr__" = some none
  hdC : PySem.W.hasDictIn K C = true
  sup : mg "super" = none
section
variable {X : Cx} {C : Addr} {nm f : Str}
/-- E(e) -/
def tMkX (C : Addr) (f : Str) (ta : TA) : St → Hp → XK → Prop := fun σ H Q => ta σ H fun vs H1 => ∃ v, vs = [v] ∧ ∀ d, H1 d = none → Q (.ref C) (some d) (upd H1 d (.xd [(f, v)]))
theorem pmk_x {a : Expr} {ta : TA} {p pos : Pos} {k : Nat} (T : XCls X.prog X.K X.mg nm C f) (hr : Room k X.A) (ha : PA X [a] ta) (hg : Gl X nm := by rfl)
    (hd : (nm == ("__debug__" : Str)) = false := by decide)
    (he : starEach (a :: []) X.env = (false, eval a X.env) :: starEach [] X.env := by rfl) (hpl : (backTo pos (starEach [] X.env)).any (·.1) = false := by rfl) :
    L2N.PMk X (.Call (.Name nm p) [a] [] pos) (tMkX C f ta) := by
  intro pins s σ H Q I h
  obtain ⟨D, fI, q, pn, TT, iC, tC⟩ := T.how
  refine wpAny_Call_Name_kw (ld_glob I hg T.gC ?_ hd)
  refine PySem.W.callWith_K (h₀ := X.base) I.ok.mod.kin T.kC (thn (ha.run pos pins s σ H _ I h) fun us s1 hh => ?_) he hpl
  obtain ⟨vs, H1, I1, r1, v, ev, q1⟩ := hh
  subst ev
  refine ⟨I1.kIn, ?_⟩
  cases r1 with
  | cons rv rn =>
    rename_i v' us'
    cases rn
    show wpAny _ _ (call (.ref C) [v']) _ _ _
    have hlim := I1.nolimit
    obtain ⟨mb, b1, b2⟩ := I1.mod.blt
    have hg1 := I1.mod.glob.keeps I1.bk
    have hb1 := b1.keeps I1.bk
    obtain ⟨hp, g, dr, tk, os⟩ := s1
    refine wpAny_call (PySem.OwnX.xmade TT iC tC I1.kIn hg1 T.sup hb1 (b2 _ (by decide)) hlim (by have := hr.dp; omega) fun h' tk' e d M => ?_)
    show L2N.MkP X pins σ Q (.ref e) ⟨h', g, dr, tk', os⟩
    obtain ⟨oe, fv, hoe, hc, hd, hdat, h1, h2⟩ := M.obj
    have hns := M.ns
    obtain ⟨G', g1, g2⟩ := restrict h' fun b => decide (b ≠ e)
    have gk : ∀ b, b ≠ e → G'.get? b = h'.get? b := fun b hb => g1 b (decide_eq_true hb)
    have ge : G'.get? e = none := g2 e (by simp)
    have old : ∀ b o, hp.get? b = some o → G'.get? b = some o := fun b o q => (gk b (Nat.ne_of_lt (Nat.lt_of_lt_of_le (Heap.lt_size q) M.new))).trans (M.keep b o q)
    have ob : ObjOk X.prog X.w (upd H1 d (.xd [(f, v)])) G' d (.xd [(f, v)]) :=
      ⟨_, hns.at (fun o q => (gk d M.dne).trans q), fun g => relO_one rv f g⟩
    have J : Inv X pins σ (upd H1 d (.xd [(f, v)])) ⟨G', g, dr, tk', os⟩ := I1.laid (t' := tk') old M.dbig ob
    refine ⟨e, oe, fv, ⟨G', g, dr, tk', os⟩, _, .ref C, some d, rfl, J, fun b o q => ?_, ge, hoe, ⟨hc, hd, fun vs e => by rw [hdat] at e; cases e; exact h2⟩, hdat, h1, ?_, rfl, I1.bare, raises_own T.exC T.tyC, q1 d (I1.hok.fresh M.dbig)⟩
    · by_cases hb : b = e
      · have q' : G'.get? b = some o := q
        rw [hb, ge] at q'; cases q'
      · exact (gk b hb).symm.trans q
    · rw [upd_ne (Ne.symm M.dne)]
      exact I1.hok.fresh M.new
/-- raise E(e) -/
def tRaiseX (C : Addr) (f : Str) (W : WX) (ta : TA) : TS := fun _ σ H => tMkX C f ta σ H fun cls d H' => W cls d σ H'
theorem ps_raiseX {a : Expr} {ta : TA} {W : WX} {p pos pos2 : Pos} {k : Nat} (hc : X.calm = true) (T : XCls X.prog X.K X.mg nm C f) (hr : Room k X.A) (tk : L2N.Takes X W) (ha : PA X [a] ta) (hg : Gl X nm := by rfl)
    (hd : (nm == ("__debug__" : Str)) = false := by decide)
    (he : starEach (a :: []) X.env = (false, eval a X.env) :: starEach [] X.env := by rfl) (hpl : (backTo pos (starEach [] X.env)).any (·.1) = false := by rfl) :
    PS X (.Raise (some (.Call (.Name nm p) [a] [] pos)) none pos2) (tRaiseX C f W ta) := L2N.ps_raise hc tk (pmk_x T hr ha hg hd he hpl)
end
end L2
namespace L2
open PySem PySem.Spec PyProof.Rows PySem.W PySem.HandSPX
/-- an error class of one field, from what the written part says -/
theorem XCls.of {P : Program} {K : Frag} {h : Heap} {mg : Str → Option Value} {nm q q' f pn nm' : Str} {C D fI N cda cc : Addr} {bs bm : List Value} {sn : List Str} {sub : List Value} {ab : Bool} {col : Option Bool} {dd od an cdd cld : Option Addr} {k0 k1 k2 k3 k5 : Option Value}
    {oc doc pm ct ccl cl : Value} {osl ccs csl : Array (Option Value)} {txt file : Str} {k : Nat} {p1 p2 a b c d e q1 a1 b1 c1 d1 : Pos} {vs : Array Value} {tf : Tok} (wd : PySem.OwnX.Word pn) (X : K.In h) (G : h.Ns mainGlobals mg)
    (gC : nsIn K mainGlobals nm = some (some (.ref C))) (cls : K.lookup C = some (excClassObj nm' q' C N bs bm true sn sub ab col dd k0 k1 k2 k3 k5 "ValueError.__new__")) (rv : refsVE bm = true)
    (iC : findIn K (.ref C) "__init__" = some (some (.ref fI))) (tI : typeIn K (.ref fI) = some (.type "function"))
    (fn : K.lookup fI = some ⟨oc, od, .func (ksFn "__init__" q (PySem.OwnX.xA pn p1 p2) (PySem.OwnX.xB txt f pn k a b c d e q1 a1 b1 c1 d1) (PySem.OwnX.xS pn) .none .none doc pm an (.ref cda) ct cc), osl⟩) (ps : (c.endLine == e.line) = true)
    (cd : codeIn K (.ref cda) q = true) (cv : K.lookup cda = some ⟨ccl, cdd, .fields vs, ccs⟩) (fl : vs[2]? = some (.str file tf)) (fm : ((P.main.file : Str) == file) = true) (ce : K.lookup cc = some ⟨cl, cld, .cell (some (.ref D)), csl⟩)
    (ini : excInitIn K C veTail "ValueError.__new__" = true) (sa : findIn K (.ref C) "__setattr__" = some (some (.builtin "object.__setattr__"))) (noN : findIn K (.ref C) f = some none) (hD : isClsIn K D = true) (subD : mroIn K C (.ref D) = some true)
    (subV : subIn K (.ref C) (.type "ValueError") = some true) (opq : nsIn K cStatics "thirdparty.any" = some none) (sup : ks_superIn K C D "__init__" = some (some (.builtin "ValueError.__init__"))) (top : (P.main.scope.names.lookup ("super" : Str)).isSome = false)
    (kC : keepIn K (.ref C) = true) (exC : subIn K (.ref C) (.type "BaseException") = some true) (tyC : typeIn K (.ref C) = some (.type "type")) (ga : findIn K (.ref C) "__getattribute__" = some (some (.builtin "BaseException.__getattribute__")))
    (gg : findIn K (.ref C) "__getattr__" = some none) (hdC : hasDictIn K C = true) (su : nsIn K mainGlobals "super" = some none) : XCls P K mg nm C f :=
  ⟨mg_of X G gC, ⟨D, fI, q, pn, ⟨⟨_, _, _, _, _, _, _, _, _, _, _, _, _, _, _, cls, rv⟩, ⟨_, _, _, _, _, _, _, _, _, _, _, _, _, _, _, _, _, _, _, _, _, _, _, ps, fn, cd, ⟨_, _, _, _, _, _, cv, fl, fm⟩, _, _, _, ce⟩, ini, sa, noN, hD, subD, subV, opq, sup, top, wd⟩, iC, tI⟩, kC, exC, tyC, ga, gg, hdC, mg_none_of X G su⟩
end L2

set_option Elab.async false
set_option linter.all false
set_option maxRecDepth 100000
set_option maxHeartbeats 4000000
/-! several except clauses, each with or without a name; isinstance of a caught error that has a dict -/
namespace L2
open PySem PySem.Spec PyProof.Rows
/-- a clause «except C as n»: n (slot i) holds the error, and is empty behind the suite -/
def hAs (i : Nat) (ts : Addr → Value → Option Addr → TS) : Addr → Value → Option Addr → TS := fun a cls d D σ H =>
  ts a cls d ⟨fun τ G => D.nx (τ.set i none) G, D.rt, fun τ G => D.bk (τ.set i none) G, fun τ G => D.ct (τ.set i none) G⟩ (σ.set i (some (.ref a))) H
/-- a clause's suite, run with the error at a held -/
def SuiteOk (X : Cx) (suite : List Stmt) (ts : Addr → Value → Option Addr → TS) : Prop :=
  ∀ (a : Addr) (oe : Obj) (cls : Value) (d : Option Addr) (pn : List (Addr × Obj)), L2N.Zn cls d oe → (∃ vs, oe.data = .fields vs) → PSs (X.suite a ((a, oe) :: pn)) suite (ts a cls d)
inductive Hdl (X : Cx) : List ExceptHandler → List (Value × (Addr → Value → Option Addr → TS)) → Prop
  | done : Hdl X [] []
  | bare {x c ts b₀ suite np q hds l} (hc : Names X x c) (hs : SuiteOk X (b₀ :: suite) ts) (r : Hdl X hds l) : Hdl X (.ExceptHandler (some (.Name x np)) none (b₀ :: suite) q :: hds) ((c, ts) :: l)
  | named {x c ts b₀ suite np q hds l} {n : Str} {i : Nat} (hN : X.N.Nodup) (hi : X.N[i]? = some n) (hln : X.env.kindOf n = some .local) (hc : Names X x c) (hs : SuiteOk X (b₀ :: suite) ts) (r : Hdl X hds l) :
      Hdl X (.ExceptHandler (some (.Name x np)) (some n) (b₀ :: suite) q :: hds) ((c, hAs i ts) :: l)
section
variable {X : Cx} {pins : List (Addr × Obj)}
/-- an error of the body at a, seen by the clauses: all that they go on with -/
structure Seen (X : Cx) (pins : List (Addr × Obj)) (σ : St) (H : Hp) (B : Heap) (sI s' : Shared) (a : Addr) (cls : Value) (d : Option Addr) (h : Heap) : Prop where
  fl : HandSPX.FlyingZ B (X.env :: X.outer) a (L2N.Zn cls d) h
  inv : Inv X pins σ H sI
  nb : ∀ b o, sI.heap.get? b = some o → b ∉ frs X.stack → B.get? b = some o
  up : sI.heap.UpToSlots h
  na : H a = none
  os : s'.os = sI.os
  ag : AllBare s'.gens
  nL : a ≠ X.env.locals
  nF : a ∉ X.fs
theorem Seen.here {σ : St} {H : Hp} {B : Heap} {sI s' : Shared} {a : Addr} {cls : Value} {d : Option Addr} {h : Heap} (S : Seen X pins σ H B sI s' a cls d h) : Inv X pins σ H { s' with heap := h } := S.inv.landed S.nb S.fl.1 S.up S.os S.ag
/-- the suite's ends, told of the state behind it -/
theorem suite_ends {Q : Flow → Shared → Prop} {D : Ends} {a : Addr} {oe : Obj} {suite : List Stmt} {t : TS} {s : Shared} {σ : St} {H : Hp} {E : Value → Shared → Prop}
    (ok : X.Ok) (S : Inv (X.suite a ((a, oe) :: (X.pn ++ pins))) [] σ H s) (hs : PSs (X.suite a ((a, oe) :: (X.pn ++ pins))) suite t) (h : t D σ H)
    (k : ∀ f s', SP X pins D f s' → Q f s') : wpAny (model X.prog X.w) (X.A.mark (some (.ref a))) (execs suite X.env) Q E s :=
  wpAny_mono (hs.run [] s σ H D S h) (fun f s' z => k f s' (by
    cases f with
    | ret u => obtain ⟨v, τ, G, J, r, q⟩ := z; exact ⟨v, τ, G, J.unsuite ok, r, q⟩
    | next => obtain ⟨τ, G, J, q⟩ := z; exact ⟨τ, G, J.unsuite ok, q⟩
    | brk => obtain ⟨τ, G, J, q⟩ := z; exact ⟨τ, G, J.unsuite ok, q⟩
    | cont => obtain ⟨τ, G, J, q⟩ := z; exact ⟨τ, G, J.unsuite ok, q⟩)) (fun _ _ z => z.elim)
theorem clauses {Wout : WX} {D : Ends} {σ : St} {H : Hp} {B : Heap} {sI s' : Shared} {a : Addr} {cls : Value} {d : Option Addr} {h : Heap} (ok : X.Ok) (hs : X.stack = X.env :: X.outer) (hf : X.env.frame = some X.env.locals)
    (tk : L2N.Takes X Wout) (S : Seen X pins σ H B sI s' a cls d h) {hds : List ExceptHandler} {l : List (Value × (Addr → Value → Option Addr → TS))} (hk : Hdl X hds l) (w : wMany X.K Wout D l cls d σ H) :
    wpAny (model X.prog X.w) X.A (handleBy (.ref a) X.env hds) (SP X pins D) X.xe { s' with heap := h } := by
  have J := S.here
  have test : ∀ {x : Str} {c : Value} {np : Pos} {Q : Value → Shared → Prop} {E : Value → Shared → Prop}, Names X x c → Q c { s' with heap := h } → wpAny (model X.prog X.w) (X.A.mark (some (.ref a))) (eval (.Name x np) X.env) Q E { s' with heap := h } := by
    intro x c np Q E hc q
    obtain ⟨oe, vs, he, hz, hd⟩ := S.fl.there
    have SS := J.suite he hd S.na S.nL S.nF
    obtain ⟨gl, nd, m | ⟨m, bv, nn⟩⟩ := hc
    · exact ld_glob (X := X.suite a ((a, oe) :: (X.pn ++ pins))) SS gl m q nd
    · exact ld_blt (X := X.suite a ((a, oe) :: (X.pn ++ pins))) SS gl m bv q nn nd
  have asks : ∀ {c : Value} {b : Bool}, PySem.W.exmOne X.K cls c = some b → PySem.W.Looks (model X.prog X.w) h (excMatches (.ref a) c) b := fun {c b} e => PySem.W.exm_one J.kIn (fun A Q E s k q => by
    obtain ⟨oe, vs, he, hz, hd⟩ := S.fl.there
    exact wpAny_typeOf_ref (k _ _ he) (by rw [hz.1]; exact q)) e
  induction hk with
  | done =>
    refine wpAny_handleBy_nil ?_
    obtain ⟨_, _, _, oe, vs, T, oT, ts', he, _, hd, h1, _⟩ := id S.fl
    unfold PySem.passOn
    refine wpAny_bind (wpAny_field he hd h1 ?_)
    have ne : ¬ ((Value.ref T == Value.none) = true) := by simp
    rw [if_neg ne]
    have rest : wpAny (model X.prog X.w) X.A (setFlight (.ref a) X.env.frame) (fun _ t => wpAny (model X.prog X.w) X.A (throw (.ref a) : Sem Flow) (SP X pins D) X.xe t) X.xe { s' with heap := h } := by
      rw [hf]
      refine HandSPX.setFlight_upZ S.fl fun g hg ug => wpAny_throw (tk _ _ ⟨a, B, sI, pins, σ, H, cls, d, rfl, S.inv, S.nb, S.up.trans ug, .inr (.inr ?_), S.na, S.os, S.ag, w⟩)
      rw [hs]
      exact hg
    first
      | exact wpAny_bind rest
      | exact wpAny_bind (wpAny_pure (wpAny_bind rest))
  | @bare x c ts b₀ suite np q hds2 l2 hc hsu r ih =>
    obtain ⟨b, e1, yes, no⟩ := w
    refine wpAny_handleBy_cons (codeAny_handlers_test (test hc ((asks e1).here ?_))) (by intro q; cases q)
    cases b with
    | false =>
      show wpAny _ X.A (handleBy (.ref a) X.env hds2) _ _ _
      exact ih (no rfl)
    | true =>
      refine codeAny_handlers_suite (HandSPX.lands_againZ S.fl fun g fg ug => ?_)
      have J4 : Inv X pins σ H { s' with heap := g } := S.inv.landed S.nb fg.1 (S.up.trans ug) S.os S.ag
      obtain ⟨oe, vs, he, hz, hd⟩ := fg.there
      exact suite_ends ok (J4.suite he hd S.na S.nL S.nF) (hsu a oe cls d (X.pn ++ pins) hz ⟨_, hd⟩) (yes rfl a S.na) (fun f s6 z => z)
  | @named x c ts b₀ suite np q hds2 l2 n i hN hi hln hc hsu r ih =>
    obtain ⟨b, e1, yes, no⟩ := w
    refine wpAny_handleBy_cons (codeAny_handlers_test (test hc ((asks e1).here ?_))) (by intro q; cases q)
    cases b with
    | false =>
      show wpAny _ X.A (handleBy (.ref a) X.env hds2) _ _ _
      exact ih (no rfl)
    | true =>
      refine codeAny_handlers_suite_as (HandSPX.lands_againZ S.fl fun g fg ug => ?_)
      have J4 : Inv X pins σ H { s' with heap := g } := S.inv.landed S.nb fg.1 (S.up.trans ug) S.os S.ag
      obtain ⟨oe, vs, he, hz, hd⟩ := fg.there
      refine store_ok (X := X.suite a ((a, oe) :: (X.pn ++ pins))) (v := .ref a) (J4.suite he hd S.na S.nL S.nF) hN hi (.inl hln) rfl (fun s5 S5 => ?_) (.inr hln)
      refine suite_ends ok S5 (hsu a oe cls d (X.pn ++ pins) hz ⟨_, hd⟩) (yes rfl a S.na) (fun f s6 z => ?_)
      cases f with
      | ret u => obtain ⟨v, τ, G, J6, r6, q6⟩ := z; exact gone_ok J6 hN hi hln fun s7 J7 => ⟨v, _, _, J7, r6, q6⟩
      | next => obtain ⟨τ, G, J6, q6⟩ := z; exact gone_ok J6 hN hi hln fun s7 J7 => ⟨_, _, J7, q6⟩
      | brk => obtain ⟨τ, G, J6, q6⟩ := z; exact gone_ok J6 hN hi hln fun s7 J7 => ⟨_, _, J7, q6⟩
      | cont => obtain ⟨τ, G, J6, q6⟩ := z; exact gone_ok J6 hN hi hln fun s7 J7 => ⟨_, _, J7, q6⟩
theorem ps_tryN {body : List Stmt} {h₀ : ExceptHandler} {hds : List ExceptHandler} {l : List (Value × (Addr → Value → Option Addr → TS))} {pos : Pos} {tb : WX → TS} {Wout : WX}
    (hs : X.stack = X.env :: X.outer) (hf : X.env.frame = some X.env.locals) (tk : L2N.Takes X Wout)
    (hb : ∀ (W : WX) (pn : List (Addr × Obj)) (xe : Value → Shared → Prop), L2N.Takes (X.tr pn xe) W → PassesOwn (model X.prog X.w) X.A X.env xe → PSs (X.tr pn xe) body (tb W))
    (hh : Hdl X (h₀ :: hds) l) : PS X (.Try body (h₀ :: hds) [] [] pos) (fun D σ H => tb (wMany X.K Wout D l) D σ H) := by
  refine ⟨fun pins s σ H D I h => wpAny_Try_except ?_⟩
  have ok := I.ok
  have hfr : X.A.frames = some (X.env :: X.outer) := by rw [ok.frames, hs]
  refine wpAny_mono ((hb (wMany X.K Wout D l) (X.pn ++ pins) _ ?_ PassesOwn.looking).run [] s σ H D (I.toTry _) h) (fun f t z => ?_) (fun _ _ z => z)
  · rintro u s' ⟨a, B, sI, ps, τ, G, cls, d, rfl, J', nb, up, sky, na, os, ag, w⟩
    have J : Inv X pins τ G sI := J'.ofTry ok
    show wpAny (model X.prog X.w) X.A (noteFrame (.ref a) X.env) _ _ _
    refine L2N.Sky.land L2N.Zn.steady hfr hf (by rw [← hs]; exact sky) fun g fg ug => ?_
    obtain ⟨oe, vs, he, hz, hd⟩ := fg.there
    have nfr : a ∉ frs (X.env :: X.outer) := fun hm => by
      obtain ⟨_, o', e', hnf⟩ := fg.2.2.1.mem hm
      rw [he] at e'
      cases e'
      exact hnf _ hd
    refine clauses ok hs hf tk ⟨fg, J, nb, up.trans ug, na, os, ag, fun z => nfr (List.mem_filterMap.mpr ⟨X.env, List.mem_cons_self, by rw [hf, z]⟩), fun hm => ?_⟩ hh w
    obtain ⟨e, he', q⟩ := List.mem_filterMap.mp hm
    exact nfr (List.mem_filterMap.mpr ⟨e, List.mem_cons_of_mem _ he', q⟩)
  · cases f with
    | ret u => obtain ⟨v, τ, G, J, r, q⟩ := z; exact ⟨v, τ, G, J.ofTry ok, r, q⟩
    | next => obtain ⟨τ, G, J, q⟩ := z; exact wpAny_execs_nil ⟨τ, G, J.ofTry ok, q⟩
    | brk => obtain ⟨τ, G, J, q⟩ := z; exact ⟨τ, G, J.ofTry ok, q⟩
    | cont => obtain ⟨τ, G, J, q⟩ := z; exact ⟨τ, G, J.ofTry ok, q⟩
end
/-- isinstance(e, c) of the error that the suite holds, its class told only in the reading -/
def rIsX (K : PySem.W.Frag) (a : Addr) (cls : Value) (d : Option Addr) : List V → Hp → VK → Prop := fun xs H Q => ∃ (D : Addr) (c : V) (cv : Value) (b : Bool), cls = .ref D ∧ ExcC K D ∧ (∀ dd, d = some dd → ∃ fs, H dd = some (.xd fs)) ∧ xs = [.ref a, c] ∧ (∀ u, RelV c u → u = cv) ∧ PySem.W.kitOne K cls cv = some b ∧ Q (.bl b) H
theorem call_isX {X : Cx} {a : Addr} {cls : Value} {d : Option Addr} {oe : Obj} {pn : List (Addr × Obj)} (hz : L2N.Zn cls d oe) (hf : ∃ vs, oe.data = .fields vs) :
    CallR (X.suite a ((a, oe) :: pn)) (.builtin "isinstance") (rIsX X.K a cls d) := by
  intro pins s σ H xs us Q I r h
  obtain ⟨D, c, cv, b, rfl, C, hd, rfl, hcv, e, q⟩ := h
  cases r with
  | cons rx rr =>
    cases rr with
    | cons rt rr =>
      cases rr
      cases rx
      obtain rfl := hcv _ rt
      obtain ⟨hget, _⟩ := I.pin (a, oe) (List.mem_append.mpr (.inl List.mem_cons_self))
      obtain ⟨vs, hv⟩ := hf
      obtain ⟨od, J⟩ : ∃ od, PySem.W.InstAt s.heap a oe D od := by
        obtain ⟨oc, odd, oda, osl⟩ := oe
        obtain ⟨h1, h2, _⟩ := hz
        dsimp only at h1 h2 hv
        subst h1 h2 hv
        cases odd with
        | none => exact ⟨none, hget, rfl, rfl, trivial⟩
        | some dd =>
          obtain ⟨fs, ea⟩ := hd dd rfl
          have hx : ObjOk X.prog X.w H s.heap dd (.xd fs) := I.hok dd _ ea
          obtain ⟨mA, hns, _⟩ := hx
          obtain ⟨od, hod, _⟩ := lookIn_ns hns
          exact ⟨some od, hget, rfl, rfl, hod⟩
      obtain ⟨cd, hcd, _⟩ := PySem.W.any_some C.hd
      exact PySem.W.kia_one (PySem.W.kitx_exc (od := od) (by rw [hcd]; rfl) C.hg C.hk C.hs C.ha C.hn C.ht C.hm) I.kIn J e (fun z => nomatch z) fun tk => ⟨.bl b, H, I.kept (t' := tk) fun _ _ z => z, rfl, q⟩
theorem XCls.xf {P : Program} {K : PySem.W.Frag} {mg : Str → Option Value} {nm f : Str} {C : Addr} (T : XCls P K mg nm C f) : XfC K C := ⟨T.ga, T.gg, T.exC, T.hdC⟩
theorem XCls.noF {P : Program} {K : PySem.W.Frag} {mg : Str → Option Value} {nm f : Str} {C : Addr} (T : XCls P K mg nm C f) : PySem.W.findIn K (.ref C) f = some none := by
  obtain ⟨_, _, _, _, h, _⟩ := T.how
  exact h.noN
end L2

set_option Elab.async false
set_option linter.all false
set_option maxRecDepth 100000
set_option maxHeartbeats 4000000
/-! own operators of instances that have a dict -/
namespace PySem.W
open PySem PySem.Calls PyProof.Rows
section
variable {prog : Program} {w : World} {A : Around} {E : Value → Shared → Prop} {s : Shared} {K : Frag} {x C L f : Addr} {h₀ : Heap} {m : Str → Option Value} {ox : Obj} {od : Option Obj} {b tb : Value}
/-- x != b where only __eq__ is the class's own -/
theorem ne_own {Q : Value → Shared → Prop} (hu : A.units + 1 < cLine) (F : Fr h₀ L s.heap m) (X₀ : K.In h₀) (I : InstAt s.heap x ox C od) (hb : Looks (model prog w) s.heap (typeOf b) tb) (hn : notFirst K C tb = true)
    (hne : findIn K (.ref C) "__ne__" = some (some (.builtin "object.__ne__"))) (hob : subIn K (.ref C) (.type "object") = some true)
    (hs : findIn K (.ref C) "__eq__" = some (some (.ref f))) (hf : isFn K (.ref f) = true)
    (h : wpAny (model prog w) A.in1 (call (.ref f) [.ref x, b]) (fun r s' => ∃ y, r = .bool y ∧ Q (.bool (!y)) s') E s) : wpAny (model prog w) A (richCompare .NotEq (.ref x) b) Q E s := by
  have X := X₀.keeps F.keep
  have hu0 : A.units < cLine := Nat.lt_of_succ_lt hu
  have inst : Looks (model prog w) s.heap (isInstance (.ref x) (.type "object")) true := I.type.andThen (looks_subIn X hob)
  have body : wpAny (model prog w) A (call (.builtin "object.__ne__") [.ref x, b]) (fun v s' => ∃ y, v = .bool y ∧ Q v s') E s := by
    refine wpAny_call (codeAny_call_builtin PySem.F.cmp_object.ne.plain PySem.F.cmpEntry_ne (check_slot PySem.F.cmpKind_ne PySem.F.cmpSplit_ne inst (PySem.F.cmpArgs_ne _ _) ?_))
    unfold Builtin.«object.__ne__»
    refine wpAny_bind (wpAny_of_eq (a := ((Value.ref x : Value), [b])) (by first | rfl | (simp only [slotArgs]; rfl)) ?_)
    refine wpAny_bind (wpAny_cRoomFor (A := A.in1) hu (wpAny_bind (ifBound_K X I hs hf (wpAny_mono h (fun r s' z => ?_) fun _ _ e => e))))
    obtain ⟨y, rfl, q⟩ := z
    exact wpAny_bind (wpAny_pure (wpAny_pure ⟨_, rfl, q⟩))
  have one : wpAny (model prog w) A (tryCompare (.ref x) "__ne__" b) (fun r s' => ∃ v, r = some v ∧ Q v s') E s := by
    unfold tryCompare
    simp only [callSpecialIfBound?, bindSpecialIfBound?]
    refine wpAny_bind (wpAny_holding (wpAny_bind (wpAny_bind (wpAny_bind (I.type.here ((looks_findIn X hne).here ?_))))))
    refine wpAny_bind (wpAny_askSetting (wpAny_ite ?_))
    simp only [PySem.F.cmp_object.ne.bind]
    have fin : wpAny (model prog w) A (call (.builtin "object.__ne__") ([.ref x] ++ [b]) >>= fun v => pure (some v)) (fun o s' => wpAny (model prog w) A (match o with | some .notImplemented => pure none | none => pure none | some r => pure (some r)) (fun r s' => ∃ v, r = some v ∧ Q v s') E s') E s :=
      wpAny_bind (wpAny_mono body (fun v s' z => by
        obtain ⟨y, rfl, q⟩ := z
        exact wpAny_pure (wpAny_pure ⟨_, rfl, q⟩)) fun _ _ e => e)
    split
    · exact wpAny_bind (wpAny_pure (wpAny_pure fin))
    · exact wpAny_tryCatch (wpAny_bind (wpAny_pure (wpAny_pure fin)))
  unfold richCompare
  simp only [oneThing_ref, cmpInfo_NotEq]
  refine wpAny_holding (wpAny_bind (wpAny_cRoomFor hu0 (wpAny_bind (I.type.here (wpAny_bind (hb.here ?_))))))
  have go : ∀ k : Option Value → Sem Value, (∀ v, k (some v) = pure v) → wpAny (model prog w) A (tryCompare (.ref x) "__ne__" b >>= k) Q E s := fun k hk =>
    wpAny_bind (wpAny_mono one (fun r s' z => by
      obtain ⟨v, rfl, q⟩ := z
      rw [hk]
      exact wpAny_pure q) fun _ _ e => e)
  split
  · rename_i q
    have e : subIn K tb (.ref C) = some false := by
      rcases Bool.or_eq_true_iff.mp hn with e | e
      · rw [beq_iff_eq.mp e] at q
        simp at q
      · exact beq_iff_eq.mp e
    refine wpAny_bind ((looks_subIn X e).here ?_)
    simp only [Bool.false_eq_true, if_false]
    exact go _ (fun v => rfl)
  · refine wpAny_bind (wpAny_pure ?_)
    simp only [Bool.false_eq_true, if_false]
    exact go _ (fun v => rfl)
end
end PySem.W
namespace L2
open PySem PySem.Spec PyProof.Rows
theorem rel_ref (a : Addr) : RelV (.ref a) (.ref a) := rfl
/-- nothing is let out -/
abbrev EN : St → XK := fun _ _ _ _ => False
abbrev EF : XK := fun _ _ _ => False
theorem passN {X : Cx} {P : Program} {w : World} (hp : P = X.prog := by rfl) (hw : w = X.w := by rfl) (σ : St) : PassesAt (L2N.CX P w) X σ EF := by
  subst hp hw
  exact fun _ _ _ e s' I c => by
    have z := L2N.XE.of_call (W := fun _ _ _ _ => False) I (fun _ _ _ h => h) c
    obtain ⟨_, _, _, _, _, _, _, _, _, _, _, _, _, _, _, _, w⟩ := z
    exact w.elim
/-- the method m of the class at C, by its values -/
structure Own (P : Program) (w : World) (K : PySem.W.Frag) (mg : Str → Option Value) (base : Heap) (k : Nat) (C : Addr) (m : Str) (sp : Sp) : Prop where
  ex : ∃ f, PySem.W.findIn K (.ref C) m = some (some (.ref f)) ∧ PySem.W.isFn K (.ref f) = true ∧ FnR P w K mg base (L2N.CX P w) k f sp
section
variable {X : Cx} {pins : List (Addr × Obj)} {σ : St} {H : Hp} {s : Shared} {n k : Nat} {C : Addr} {sp : Sp} {E : St → XK} {m : Str}
theorem run_raw {A : Around} {f : Addr} {Q : VK} {us : List Value} {vs : List V} (F : FnR X.prog X.w X.K X.mg X.base (L2N.CX X.prog X.w) k f sp) (hr : Room k A) (e0 : Env0 X.prog X.w X.K X.mg X.base A X.stack s H) (hx : PassesAt (L2N.CX X.prog X.w) X σ (E σ))
    (I : Inv X pins σ H s) (r : Vals vs us) (h : sp vs H Q (E σ)) : wpAny (model X.prog X.w) A (call (.ref f) us) (EP X pins σ Q) X.xe s := by
  refine wpAny_call (codeAny_mono (F A X.stack s H us vs Q (E σ) hr e0 r h) fun r s' hq => ?_)
  cases r with
  | error e => exact hx pins H s e s' I hq
  | ok fl =>
    cases fl with
    | ret u => exact I.after hq
    | next => exact hq
    | brk => exact hq
    | cont => exact hq
/-- an instance of the class at C -/
def Ins (H : Hp) (C : Addr) (x : V) : Prop := ∃ a dx fs, x = .ref a ∧ H a = some (.ins C dx fs)
theorem Ins.inst {x : V} {u : Value} (I : Inv X pins σ H s) (r : RelV x u) (h : Ins H C x) : ∃ a ox od, x = .ref a ∧ u = .ref a ∧ PySem.W.InstAt s.heap a ox C (some od) := by
  obtain ⟨a, dx, fs, rfl, ha⟩ := h
  obtain ⟨mA, J, _⟩ := ins_get I.hok ha
  obtain ⟨od, J, _⟩ := J.look
  exact ⟨a, _, od, rfl, r, J⟩
/-- y in x, x an instance -/
def rInO (C : Addr) (sp : Sp) (neg : Bool) : R2 := fun x y H Q => Ins H C y ∧ sp [y, x] H (fun v H' => ∃ b : Bool, v = .bl b ∧ Q (.bl (b != neg)) H') EF
theorem op_inO (M : Own X.prog X.w X.K X.mg X.base k C "__contains__" sp) (hr : Room n X.A) (hk : k ≤ n) : OpR X (compareOp .In) (rInO C sp false) := by
  obtain ⟨f, hs, hf, F⟩ := M.ex
  intro pins s σ H x y v u Q I rx ry h
  obtain ⟨hy, q⟩ := h
  obtain ⟨a, ox, od, rfl, rfl, J⟩ := hy.inst I ry
  obtain ⟨mm, hF⟩ := I.fr
  refine PySem.W.in_K hF I.ok.mod.kin J hs hf (wpAny_mono (run_raw (E := EN) F (hr.mono hk) I.env0 (passN rfl rfl σ) I (.cons (rel_ref a) (.cons rx .nil)) q) (fun w s' z => ?_) fun _ _ z => z)
  obtain ⟨z', H', I', rz, b, rfl, qz⟩ := z
  cases (show w = Value.bool b from rz)
  refine wpAny_pure ?_
  have e : (b != false) = b := by cases b <;> rfl
  rw [e] at qz
  exact ⟨.bl b, H', I', rfl, qz⟩
theorem op_notInO (M : Own X.prog X.w X.K X.mg X.base k C "__contains__" sp) (hr : Room n X.A) (hk : k ≤ n) : OpR X (compareOp .NotIn) (rInO C sp true) := by
  obtain ⟨f, hs, hf, F⟩ := M.ex
  intro pins s σ H x y v u Q I rx ry h
  obtain ⟨hy, q⟩ := h
  obtain ⟨a, ox, od, rfl, rfl, J⟩ := hy.inst I ry
  obtain ⟨mm, hF⟩ := I.fr
  refine PySem.W.notIn_K hF I.ok.mod.kin J hs hf (wpAny_mono (run_raw (E := EN) F (hr.mono hk) I.env0 (passN rfl rfl σ) I (.cons (rel_ref a) (.cons rx .nil)) q) (fun w s' z => ?_) fun _ _ z => z)
  obtain ⟨z', H', I', rz, b, rfl, qz⟩ := z
  cases (show w = Value.bool b from rz)
  refine wpAny_pure ?_
  have e : (b != true) = !b := by cases b <;> rfl
  rw [e] at qz
  exact ⟨.bl (!b), H', I', rfl, qz⟩
/-- x op y by the own def, y of any type that is not below C -/
def rCmpO (K : PySem.W.Frag) (C : Addr) (sp : Sp) : R2 := fun x y H Q => Ins H C x ∧ (∃ t, TyX K H y t ∧ PySem.W.notFirst K C t = true) ∧ sp [x, y] H Q EF
theorem op_cmpO {op : CmpOp} (hop : ∀ a b, compareOp op a b = richCompare op a b) (M : Own X.prog X.w X.K X.mg X.base k C (cmpInfo op).2.1 sp) (hr : Room n X.A) (hk : k ≤ n) : OpR X (compareOp op) (rCmpO X.K C sp) := by
  obtain ⟨f, hs, hf, F⟩ := M.ex
  intro pins s σ H x y v u Q I rx ry h
  obtain ⟨hx, ⟨t, ty, hn⟩, q⟩ := h
  obtain ⟨a, ox, od, rfl, rfl, J⟩ := hx.inst I rx
  obtain ⟨PH, kx, hp, _⟩ := kit_of I ry ty
  obtain ⟨mm, hF⟩ := I.fr
  rw [hop]
  refine PySem.W.cmp_K (op := op) (tb := t) hr.units0 hF I.ok.mod.kin J (kx.ty _ _ I.kIn hp) hn hs hf ?_
  refine wpAny_mono (run_raw (E := EN) F (hr.mono hk) I.env0 (passN rfl rfl σ) I (.cons (rel_ref a) (.cons ry .nil)) q) (fun w s' z => ?_) fun _ _ z => z
  obtain ⟨z', H', I', rz, qz⟩ := z
  exact SlX.cmpback rz ⟨z', H', I', rz, qz⟩
/-- x != y by the own == -/
def rNeO (K : PySem.W.Frag) (C : Addr) (sp : Sp) : R2 := fun x y H Q => Ins H C x ∧ (∃ t, TyX K H y t ∧ PySem.W.notFirst K C t = true) ∧ sp [x, y] H (fun v H' => ∃ b : Bool, v = .bl b ∧ Q (.bl (!b)) H') EF
theorem op_neO (M : Own X.prog X.w X.K X.mg X.base k C "__eq__" sp) (hne : PySem.W.findIn X.K (.ref C) "__ne__" = some (some (.builtin "object.__ne__"))) (hob : PySem.W.subIn X.K (.ref C) (.type "object") = some true)
    (hr : Room n X.A) (hk : k + 1 ≤ n) : OpR X (compareOp .NotEq) (rNeO X.K C sp) := by
  obtain ⟨f, hs, hf, F⟩ := M.ex
  intro pins s σ H x y v u Q I rx ry h
  obtain ⟨hx, ⟨t, ty, hn⟩, q⟩ := h
  obtain ⟨a, ox, od, rfl, rfl, J⟩ := hx.inst I rx
  obtain ⟨PH, kx, hp, _⟩ := kit_of I ry ty
  obtain ⟨mm, hF⟩ := I.fr
  have hr1 : Room k X.A.in1 := (hr.mono hk).in1
  refine PySem.W.ne_own (tb := t) ?_ hF I.ok.mod.kin J (kx.ty _ _ I.kIn hp) hn hne hob hs hf ?_
  · exact hr1.units0
  refine wpAny_mono (run_raw (E := EN) F hr1 I.env0.in1 (passN rfl rfl σ) I (.cons (rel_ref a) (.cons ry .nil)) q) (fun w s' z => ?_) fun _ _ z => z
  obtain ⟨z', H', I', rz, b, rfl, qz⟩ := z
  cases (show w = Value.bool b from rz)
  exact ⟨b, rfl, .bl (!b), H', I', rfl, qz⟩
/-- the truth of x by its own __bool__ -/
def rTruO (C : Addr) (sp : Sp) : V → Hp → (Bool → Hp → Prop) → Prop := fun x H Q => Ins H C x ∧ sp [x] H (fun v H' => ∃ b : Bool, v = .bl b ∧ Q b H') EF
theorem tru_O (M : Own X.prog X.w X.K X.mg X.base k C "__bool__" sp) (hr : Room n X.A) (hk : k ≤ n) : TruR X (rTruO C sp) := by
  obtain ⟨f, hs, hf, F⟩ := M.ex
  intro pins s σ H x v Q I rx h
  obtain ⟨hx, q⟩ := h
  obtain ⟨a, ox, od, rfl, rfl, J⟩ := hx.inst I rx
  obtain ⟨mm, hF⟩ := I.fr
  refine PySem.W.truthy_K hF I.ok.mod.kin J hs hf (wpAny_mono (run_raw (E := EN) F (hr.mono hk) I.env0 (passN rfl rfl σ) I (.cons (rel_ref a) .nil) q) (fun w s' z => ?_) fun _ _ z => z)
  obtain ⟨z', H', I', rz, b, rfl, qz⟩ := z
  cases (show w = Value.bool b from rz)
  exact ⟨H', I', qz⟩
/-- what stands on the right of an own operator: an instance of the same class, or a number, of whose type the class is told -/
inductive RightO (K : PySem.W.Frag) (H : Hp) (C : Addr) (nm : String) : V → Prop
  | same {y : V} (h : Ins H C y) : RightO K H C nm y
  | int (i : Int) (h1 : (PySem.W.findIn K (.type "int") (PySem.dunder nm)).isSome = true) (h2 : (PySem.W.findIn K (.type "int") (dunderR nm)).isSome = true) (hs : PySem.W.subIn K (.type "int") (.ref C) = some false)
      (hr : ∃ rc, PySem.W.findIn K (.ref C) (dunderR nm) = some rc ∧ (rc = none ∨ ∃ g : Addr, rc = some (.ref g))) : RightO K H C nm (.int i)
/-- x op y by the own def -/
def tBinO (K : PySem.W.Frag) (C : Addr) (nm : String) (sp : Sp) (E : St → XK) (ta tb : TE) : TE := fun σ H Q => ta σ H fun x H1 => tb σ H1 fun y H2 => Ins H2 C x ∧ RightO K H2 C nm y ∧ sp [x, y] H2 Q (E σ)
theorem bin_O {op : Operator} {x y : V} {v u : Value} {Q : VK} (M : Own X.prog X.w X.K X.mg X.base k C (PySem.dunder op.info.2) sp) (sf : PySem.W.selfFirst X.K C = true) (hx : PassesAt (L2N.CX X.prog X.w) X σ (E σ)) (hr : Room k X.A)
    (I : Inv X pins σ H s) (rx : RelV x v) (ry : RelV y u) (hi : Ins H C x) (ho : RightO X.K H C op.info.2 y) (q : sp [x, y] H Q (E σ)) : wpAny (model X.prog X.w) X.A (binaryOp op v u) (EP X pins σ Q) X.xe s := by
  obtain ⟨f, hs, hf, F⟩ := M.ex
  obtain ⟨a, ox, od, rfl, rfl, J⟩ := hi.inst I rx
  obtain ⟨mm, hF⟩ := I.fr
  have back : wpAny (model X.prog X.w) X.A (call (.ref f) [.ref a, u]) (PySem.W.CmpBack (EP X pins σ Q)) X.xe s := by
    refine wpAny_mono (run_raw F hr I.env0 hx I (.cons (rel_ref a) (.cons ry .nil)) q) (fun w s' z => ?_) fun _ _ z => z
    obtain ⟨z', H', I', rz, qz⟩ := z
    exact SlX.cmpback rz ⟨z', H', I', rz, qz⟩
  cases ho with
  | same h =>
    obtain ⟨b, oy, od', rfl, rfl, J'⟩ := h.inst I ry
    exact PySem.W.binop_K hF I.ok.mod.kin J J'.type sf hs hf back
  | int i h1 h2 hsub h3 =>
    obtain ⟨t, rfl⟩ := ry
    obtain ⟨fo, h1⟩ := Option.isSome_iff_exists.mp h1
    obtain ⟨ro, h2⟩ := Option.isSome_iff_exists.mp h2
    obtain ⟨rc, h3, h4⟩ := h3
    exact PySem.W.ksp_binT (T := "int") hF I.ok.mod.kin J rfl sf hs hf h3 h4 h1 h2 hsub back
theorem pe_binO {op : Operator} {a b : Expr} {ta tb : TE} {pos : Pos} (M : Own X.prog X.w X.K X.mg X.base k C (PySem.dunder op.info.2) sp) (sf : PySem.W.selfFirst X.K C = true) (hr : Room n X.A) (hk : k ≤ n) (hx : ∀ σ, PassesAt (L2N.CX X.prog X.w) X σ (E σ))
    (ha : PE X a ta) (hb : PE X b tb) : PE X (.BinOp a op b pos) (tBinO X.K C op.info.2 sp E ta tb) := by
  refine ⟨fun pins s σ H Q I h => ?_⟩
  exact wpAny_BinOp (binT ha hb I h fun v u s2 x y H2 I2 rx ry q => bin_O M sf (hx σ) (hr.mono hk) I2 rx ry q.1 q.2.1 q.2.2)
/-- ~x by the own def -/
def tInvO (C : Addr) (sp : Sp) (E : St → XK) (ta : TE) : TE := fun σ H Q => ta σ H fun x H1 => Ins H1 C x ∧ sp [x] H1 Q (E σ)
theorem pe_invO {a : Expr} {ta : TE} {pos : Pos} (M : Own X.prog X.w X.K X.mg X.base k C "__invert__" sp) (hr : Room n X.A) (hk : k ≤ n) (hx : ∀ σ, PassesAt (L2N.CX X.prog X.w) X σ (E σ)) (ha : PE X a ta) : PE X (.UnaryOp .Invert a pos) (tInvO C sp E ta) := by
  obtain ⟨f, hs, hf, F⟩ := M.ex
  refine ⟨fun pins s σ H Q I h => UnaryOp_ (thn (ha.run pins s σ H _ I h) fun v s1 ⟨x, H1, I1, r1, hi, q⟩ => ?_)⟩
  obtain ⟨a, ox, od, rfl, rfl, J⟩ := hi.inst I1 r1
  obtain ⟨mm, hF⟩ := I1.fr
  exact PySem.W.ksp_inv hF I1.ok.mod.kin J hs hf (run_raw F (hr.mono hk) I1.env0 (hx σ) I1 (.cons (rel_ref a) .nil) q)
end
end L2

set_option Elab.async false
set_option linter.all false
set_option maxRecDepth 100000
set_option maxHeartbeats 4000000
/-! calls of defs, methods, classes and properties that may raise: by their values (FnR) -/
namespace L2
open PySem PySem.Spec PyProof.Rows
/-- the def named x -/
structure Fnc (P : Program) (w : World) (K : PySem.W.Frag) (mg : Str → Option Value) (base : Heap) (k : Nat) (x : Str) (sp : Sp) : Prop where
  ex : ∃ f, mg x = some (.ref f) ∧ PySem.W.keepIn K (.ref f) = true ∧ FnR P w K mg base (L2N.CX P w) k f sp
/-- the method m of the class at C, called by its name -/
structure Mtd (P : Program) (w : World) (K : PySem.W.Frag) (mg : Str → Option Value) (base : Heap) (k : Nat) (C : Addr) (m : Str) (sp : Sp) : Prop where
  ex : ∃ f, Cls K C ∧ Meth K C m f ∧ FnR P w K mg base (L2N.CX P w) k f sp
/-- the class named x at C; sp: its __init__ -/
structure Mkr (P : Program) (w : World) (K : PySem.W.Frag) (mg : Str → Option Value) (base : Heap) (k : Nat) (x : Str) (C : Addr) (sp : Sp) : Prop where
  ex : ∃ f, Mk K C f ∧ mg x = some (.ref C) ∧ FnR P w K mg base (L2N.CX P w) k f sp
/-- a property m of the class at C -/
structure Prp (P : Program) (w : World) (K : PySem.W.Frag) (mg : Str → Option Value) (base : Heap) (k : Nat) (C : Addr) (m : Str) (sp : Sp) : Prop where
  ex : ∃ p g, Cls K C ∧ PropOf K C m p g ∧ FnR P w K mg base (L2N.CX P w) k g sp
section
variable {X : Cx} {k n : Nat} {C : Addr} {sp : Sp} {E : St → XK} {x m : Str} {p pos apos : Pos} {e o : Expr} {es : List Expr} {ta : TE} {t : TA}
theorem pe_fc (c : Fnc X.prog X.w X.K X.mg X.base k x sp) (hr : Room n X.A) (hk : k ≤ n) (hg : Gl X x) (hx : ∀ σ, PassesAt (L2N.CX X.prog X.w) X σ (E σ)) (ha : PA X (e :: es) t)
    (hdb : (x == ("__debug__" : Str)) = false := by decide) (he : starEach (e :: es) X.env = (false, eval e X.env) :: starEach es X.env := by rfl) (hpl : (backTo pos (starEach es X.env)).any (·.1) = false := by rfl) :
    PE X (.Call (.Name x p) (e :: es) [] pos) (tCallS sp E t) := by
  obtain ⟨f, hm, kp, F⟩ := c.ex
  refine ⟨fun pins s σ H Q I h => wpAny_Call_Name_kw (ld_glob I hg hm ?_ hdb)⟩
  exact PySem.W.callWith_K (h₀ := X.base) I.ok.mod.kin kp (thn (ha.run pos pins s σ H _ I h) fun us s1 ⟨vs, H1, I1, r, q⟩ => ⟨I1.kIn, run_raw F (hr.mono hk) I1.env0 (hx σ) I1 r q⟩) he hpl
theorem pe_fc0 (c : Fnc X.prog X.w X.K X.mg X.base k x sp) (hr : Room n X.A) (hk : k ≤ n) (hg : Gl X x) (hx : ∀ σ, PassesAt (L2N.CX X.prog X.w) X σ (E σ))
    (hdb : (x == ("__debug__" : Str)) = false := by decide) : PE X (.Call (.Name x p) [] [] pos) (tCallS sp E tNil) := by
  obtain ⟨f, hm, kp, F⟩ := c.ex
  refine ⟨fun pins s σ H Q I h => wpAny_Call_Name_kw (ld_glob I hg hm ?_ hdb)⟩
  exact PySem.W.callWith_K0 I.kIn kp (run_raw (us := []) F (hr.mono hk) I.env0 (hx σ) I .nil h)
/-- o.m(..) -/
def tMtd (C : Addr) (m : Str) (sp : Sp) (E : St → XK) (ta : TE) (t : TA) : TE := fun σ H Q => ta σ H fun x H1 => ∃ a dx fs, x = .ref a ∧ H1 a = some (.ins C dx fs) ∧ fs.lookup m = none ∧ t σ H1 fun vs H2 => sp (.ref a :: vs) H2 Q (E σ)
theorem pe_me {pl : Sem Bool} (c : Mtd X.prog X.w X.K X.mg X.base k C m sp) (hr : Room n X.A) (hk : k ≤ n) (hx : ∀ σ, PassesAt (L2N.CX X.prog X.w) X σ (E σ)) (he : PE X o ta) (ha : PA X (e :: es) t)
    (hst : starEach (e :: es) X.env = (false, eval e X.env) :: starEach es X.env := by rfl) (hpl : (backTo pos (starEach es X.env)).any (·.1) = false := by rfl)
    (ht : eval (.Call (.Attribute o m apos) (e :: es) [] pos) X.env = (do
      let ov ← eval o X.env
      standAt apos.atName
      let (f, first) ← holding [ov] (getMethod ov m pl)
      callWith pos f first (backTo pos (starEach (e :: es) X.env)) (backToKw pos (keywordEach [] X.env))) := by rfl) :
    PE X (.Call (.Attribute o m apos) (e :: es) [] pos) (tMtd C m sp E ta t) := by
  obtain ⟨f, cl, hm, F⟩ := c.ex
  refine ⟨fun pins s σ H Q I h => PySem.W.methodCall_KW (pl := pl) (thn (he.run pins s σ H _ I h) fun u s1 ⟨x, H1, I1, rx, a, dx, fs, ex, ea, l, q⟩ => ?_) ht⟩
  subst ex
  cases (show u = Value.ref a from rx)
  refine getmeth_ok I1 ea cl hm l (PySem.W.callWith_K (first := [.ref a]) (h₀ := X.base) I.ok.mod.kin hm.kp (thn (ha.run pos pins s1 σ H1 _ I1 q) fun us s2 ⟨vs, H2, I2, r, q2⟩ => ⟨I2.kIn, ?_⟩) hst hpl)
  exact run_raw (us := .ref a :: us) (vs := .ref a :: vs) F (hr.mono hk) I2.env0 (hx σ) I2 (.cons (rel_ref a) r) q2
theorem pe_me0 {pl : Sem Bool} (c : Mtd X.prog X.w X.K X.mg X.base k C m sp) (hr : Room n X.A) (hk : k ≤ n) (hx : ∀ σ, PassesAt (L2N.CX X.prog X.w) X σ (E σ)) (he : PE X o ta)
    (ht : eval (.Call (.Attribute o m apos) [] [] pos) X.env = (do
      let ov ← eval o X.env
      standAt apos.atName
      let (f, first) ← holding [ov] (getMethod ov m pl)
      callWith pos f first (backTo pos (starEach [] X.env)) (backToKw pos (keywordEach [] X.env))) := by rfl) :
    PE X (.Call (.Attribute o m apos) [] [] pos) (tMtd C m sp E ta tNil) := by
  obtain ⟨f, cl, hm, F⟩ := c.ex
  refine ⟨fun pins s σ H Q I h => PySem.W.methodCall_KW (pl := pl) (thn (he.run pins s σ H _ I h) fun u s1 ⟨x, H1, I1, rx, a, dx, fs, ex, ea, l, q⟩ => ?_) ht⟩
  subst ex
  cases (show u = Value.ref a from rx)
  exact getmeth_ok I1 ea cl hm l (PySem.W.callWith_K0 (first := [.ref a]) I1.kIn hm.kp (run_raw (us := [.ref a]) (vs := [.ref a]) F (hr.mono hk) I1.env0 (hx σ) I1 (.cons (rel_ref a) .nil) q))
/-- C(..): a new instance and its dict, then __init__ -/
def tMkr (C : Addr) (sp : Sp) (E : St → XK) (t : TA) : TE := fun σ H Q => t σ H fun vs H1 =>
  ∀ y dx, H1 y = none → H1 dx = none → dx ≠ y → sp (.ref y :: vs) (upd (upd H1 dx (.own y)) y (.ins C dx [])) (fun v H2 => v = .non ∧ Q (.ref y) H2) (E σ)
theorem run_mkr {pins : List (Addr × Obj)} {σ : St} {H : Hp} {s : Shared} {f : Addr} {Q : VK} {us : List Value} {vs : List V} (M : Mk X.K C f) (F : FnR X.prog X.w X.K X.mg X.base (L2N.CX X.prog X.w) k f sp) (hr : Room (k + 1) X.A)
    (hx : PassesAt (L2N.CX X.prog X.w) X σ (E σ)) (I : Inv X pins σ H s) (r : Vals vs us)
    (h : ∀ y dx, H y = none → H dx = none → dx ≠ y → sp (.ref y :: vs) (upd (upd H dx (.own y)) y (.ins C dx [])) (fun v H2 => v = .non ∧ Q (.ref y) H2) (E σ)) :
    wpAny (model X.prog X.w) X.A (call (.ref C) us) (EP X pins σ Q) X.xe s := by
  have go := h (s.heap.objs.size + 1) s.heap.objs.size (I.hok.fresh (Nat.le_succ _)) (I.hok.fresh (Nat.le_refl _)) (Nat.ne_of_lt (Nat.lt_succ_self _))
  have J := Inv.made (C := C) I
  refine wpAny_call (make_map (f := f) I.kIn M.makes M.init (beq_iff_eq.mp M.fn) (codeAny_mono (F _ X.stack _ _ (.ref (s.heap.objs.size + 1) :: us) (.ref (s.heap.objs.size + 1) :: vs) _ (E σ) (hr.make C us []) (J.env0.make C us []) (.cons (rel_ref _) r) go) fun r s' z => ?_))
  cases r with
  | error e => exact hx pins _ _ e s' J z
  | ok fl =>
    cases fl with
    | ret u =>
      obtain ⟨v, H', J', rv, ev, q⟩ := J.after z
      subst ev
      exact ⟨rv, .ref (s.heap.objs.size + 1), H', J', rfl, q⟩
    | next => exact False.elim z
    | brk => exact False.elim z
    | cont => exact False.elim z
theorem pe_nw (c : Mkr X.prog X.w X.K X.mg X.base k x C sp) (hr : Room n X.A) (hk : k + 1 ≤ n) (hg : Gl X x) (hx : ∀ σ, PassesAt (L2N.CX X.prog X.w) X σ (E σ)) (ha : PA X (e :: es) t)
    (hdb : (x == ("__debug__" : Str)) = false := by decide) (he : starEach (e :: es) X.env = (false, eval e X.env) :: starEach es X.env := by rfl) (hpl : (backTo pos (starEach es X.env)).any (·.1) = false := by rfl) :
    PE X (.Call (.Name x p) (e :: es) [] pos) (tMkr C sp E t) := by
  obtain ⟨f, M, hm, F⟩ := c.ex
  refine ⟨fun pins s σ H Q I h => wpAny_Call_Name_kw (ld_glob I hg hm ?_ hdb)⟩
  exact PySem.W.callWith_K (h₀ := X.base) I.ok.mod.kin M.kp (thn (ha.run pos pins s σ H _ I h) fun us s1 ⟨vs, H1, I1, r, q⟩ => ⟨I1.kIn, run_mkr M F (hr.mono hk) (hx σ) I1 r q⟩) he hpl
theorem pe_nw0 (c : Mkr X.prog X.w X.K X.mg X.base k x C sp) (hr : Room n X.A) (hk : k + 1 ≤ n) (hg : Gl X x) (hx : ∀ σ, PassesAt (L2N.CX X.prog X.w) X σ (E σ))
    (hdb : (x == ("__debug__" : Str)) = false := by decide) : PE X (.Call (.Name x p) [] [] pos) (tMkr C sp E tNil) := by
  obtain ⟨f, M, hm, F⟩ := c.ex
  refine ⟨fun pins s σ H Q I h => wpAny_Call_Name_kw (ld_glob I hg hm ?_ hdb)⟩
  exact PySem.W.callWith_K0 I.kIn M.kp (run_mkr (us := []) M F (hr.mono hk) (hx σ) I .nil h)
/-- o.m, a property -/
def tPrp (C : Addr) (sp : Sp) (ta : TE) : TE := fun σ H Q => ta σ H fun x H1 => Ins H1 C x ∧ sp [x] H1 Q EF
theorem pe_pr (c : Prp X.prog X.w X.K X.mg X.base k C m sp) (hr : Room n X.A) (hk : k + 1 ≤ n) (he : PE X o ta) (hab : attributeBase o m X.env (eval o X.env) = eval o X.env := by rfl) : PE X (.Attribute o m pos) (tPrp C sp ta) := by
  obtain ⟨pa, g, cl, hp, F⟩ := c.ex
  refine ⟨fun pins s σ H Q I h => attr_of hab (thn (he.run pins s σ H _ I h) fun u s1 ⟨x, H1, I1, rx, hi, q⟩ => ?_)⟩
  obtain ⟨a, ox, od, rfl, rfl, J⟩ := hi.inst I1 rx
  obtain ⟨rest, hrec⟩ := hp.rec_
  obtain ⟨cd, hcd, _⟩ := PySem.W.any_some cl.hd
  have I2 := I1.tok (s1.toks + 1)
  refine PySem.W.get_bind I1.kIn J (PySem.W.plainGet_of (cl.get m)).1 (PySem.W.findObj_data (by rw [hcd]; rfl) hp.at_ hp.get hp.tak) (PySem.W.plainGet_of (cl.get m)).2 (wpAny_call (PySem.W.prop_get (s := { s1 with toks := s1.toks + 1 }) I1.kIn hrec ?_))
  refine codeAny_mono (F X.A.in1 X.stack { s1 with toks := s1.toks + 1 } H1 [.ref a] [.ref a] Q EF (hr.mono hk).in1 I2.env0.in1 (.cons (rel_ref a) .nil) q) fun r s' z => ?_
  cases r with
  | error er => exact (passN (X := X.nox) rfl rfl σ pins H1 _ er s' (I2.wish _) z).elim
  | ok fl =>
    cases fl with
    | ret u =>
      obtain ⟨v, H', I3, rv, q3⟩ := I2.after z
      show wpAny _ _ (handedOut u) _ _ _
      rw [PySem.W.handedOut_of (handed_of rv)]
      exact wpAny_pure ⟨v, H', I3, rv, q3⟩
    | next => exact False.elim z
    | brk => exact False.elim z
    | cont => exact False.elim z
end
theorem pi_lt {X : Cx} {tg e : Expr} {te : TE} (he : PE X e te) : PI X tg e (iLT X.K te) := by
  refine ⟨fun pins s σ H R I h => thn (he.run pins s σ H _ I h) fun v t z => ?_⟩
  obtain ⟨x, G, J, r, p, ex, w⟩ := z
  subst ex
  cases r
  have fp : ∀ b ∈ [t.heap.objs.size], FpOk X pins G b := fun b hb => by
    cases (show b = t.heap.objs.size by simpa using hb)
    exact J.fpOk (Nat.le_refl _) (J.hok.fresh (Nat.le_refl _))
  rcases w with ⟨⟨ys, hq⟩, q⟩ | ⟨⟨ys, hq⟩, q⟩
  · obtain ⟨its, rv, pl, hz⟩ := J.list hq
    exact wpAny_pyIter_list pl.isList ⟨t.heap.objs.size, [t.heap.objs.size], _, _, G, rfl, J.kept (t' := t.toks) fun b o w => Heap.get?_push_of_some _ w, turn_list p _, ⟨_, Heap.get?_push_size _ rfl, rfl, rfl⟩, fp, q⟩
  · obtain ⟨its, rv, pl, hz⟩ := J.tuple hq
    exact wpAny_pyIter_tuple (show t.heap.IsTuple p its.toArray from pl) ⟨t.heap.objs.size, [t.heap.objs.size], _, _, G, rfl, J.kept (t' := t.toks) fun b o w => Heap.get?_push_of_some _ w, turn_tuple p _, ⟨_, Heap.get?_push_size _ rfl, rfl, rfl⟩, fp, q⟩
theorem kpi_lt {X : Cx} (K : PySem.W.Frag) {tg e : Expr} {te : TE} (h : PE X e te) (hK : X.K = K := by rfl) : PI X tg e (iLT K te) := hK ▸ pi_lt h
theorem FnR.lift {P : Program} {w : World} {K : PySem.W.Frag} {mg : Str → Option Value} {base : Heap} {k : Nat} {f : Addr} {sp : Sp} (F : FnR P w K mg base C8.CX0 k f sp) : FnR P w K mg base (L2N.CX P w) k f sp := fun A outer s H us vs Q E hr e0 r h =>
  codeAny_mono (F A outer s H us vs Q E hr e0 r h) fun res s' z => by
    cases res with
    | error e => exact False.elim z
    | ok fl => cases fl <;> exact z
/-- a list (b) or a tuple -/
def SqB (K : PySem.W.Frag) (H : Hp) (b : Bool) (p : Addr) (ys : List V) : Prop := if b = true then SqL K H p ys else SqT K H p ys
theorem SqB.or {K : PySem.W.Frag} {H : Hp} {b : Bool} {p : Addr} {ys : List V} (h : SqB K H b p ys) : SqL K H p ys ∨ SqT K H p ys := by
  cases b with
  | true => exact .inl h
  | false => exact .inr h
/-- .. walked -/
def iSq (K : PySem.W.Frag) (te : TE) : TI := fun σ H R => te σ H fun x H1 => ∃ b p ys, x = .ref p ∧ SqB K H1 b p ys ∧ ∀ J, Walk J ys.length (fun G => SqB K G b p ys) (YAt ys) → R J H1
theorem pi_sq {X : Cx} {tg e : Expr} {te : TE} (he : PE X e te) : PI X tg e (iSq X.K te) := by
  have hm : PE X e (fun σ H Q => te σ H fun x H1 => Q x H1) := he
  refine ⟨fun pins s σ H R I h => ?_⟩
  have k : PE X e (fun σ' H' Q => te σ' H' fun x H1 => Q x H1) := he
  refine (pi_lt (X := X) (tg := tg) (e := e) (te := fun σ' H' Q => ∃ R', te σ' H' R' ∧ ∀ x H1, R' x H1 → Q x H1) ⟨fun pins s σ' H' Q I h => ?_⟩).run pins s σ H R I ⟨_, h, fun x H1 z => ?_⟩
  · obtain ⟨R', h1, h2⟩ := h
    exact wpAny_mono (he.run pins s σ' H' _ I h1) (fun v t z => by
      obtain ⟨x, G, J, r, q⟩ := z
      exact ⟨x, G, J, r, h2 x G q⟩) fun _ _ z => z
  · obtain ⟨b, p, ys, rfl, hs, go⟩ := z
    refine ⟨p, rfl, ?_⟩
    cases b with
    | true => exact .inl ⟨⟨ys, hs⟩, go _ walk_list⟩
    | false => exact .inr ⟨⟨ys, hs⟩, go _ walk_tup⟩
theorem kpi_sq {X : Cx} (K : PySem.W.Frag) {tg e : Expr} {te : TE} (h : PE X e te) (hK : X.K = K := by rfl) : PI X tg e (iSq K te) := hK ▸ pi_sq h
end L2

set_option Elab.async false
set_option linter.all false
set_option maxRecDepth 100000
set_option maxHeartbeats 4000000
/-! the layer of trees: values are trees D, changing objects stand in a row S by number; readings are exact -/
namespace A
open PySem PySem.Spec PyProof.Rows L2

inductive D where
  | non | bl (b : Bool) | int (i : Int) | str (x : Str) | tup (xs : List D) | lst (xs : List D)
  | obj (C : Str) (ns : List Str) (vs : List D) | ref (n : Nat) | ty (n : String) | cl (C : Str) | adr (a : Addr) | scr (ns : List Int)
/-- an object that may change -/
inductive O where
  | lst (xs : List D) | ins (C : Str) (fs : List (Str × D)) | dct (kvs : List (Str × D))
abbrev Sto := List O
/-- an error: its class, its fields -/
structure Exc where
  C : Str
  ns : List Str
  vs : List D
structure Cg where
  K : PySem.W.Frag
  cA : Str → Addr
structure Wd where
  R : Addr → Prop
  i : Nat → Addr
/-- the script as one of the module's own objects -/
def ScK (K : PySem.W.Frag) (a : Addr) (ns : List Int) : Prop := ∃ (o : Obj) (its : Array Value) (n : Nat), K.lookup a = some o ∧ o.cls = .type "list" ∧ o.dict = none ∧ o.data = .seq its n ∧ its.size ≤ sizeLine ∧ Vals (ns.map V.int) its.toList
theorem scr_sq {K : PySem.W.Frag} {H : Hp} {a : Addr} {ns : List Int} {p : Prop} (h : (Rd H a (.lst (ns.map V.int)) ∧ p) ∨ ScK K a ns) : SqL K H a (ns.map V.int) := h.elim (fun x => .inl x.1) .inr
mutual
inductive Rel (c : Cg) (w : Wd) (N : Nat) (H : Hp) : D → V → Prop
  | non : Rel c w N H .non .non
  | bl (b : Bool) : Rel c w N H (.bl b) (.bl b)
  | int (i : Int) : Rel c w N H (.int i) (.int i)
  | str (x : Str) : Rel c w N H (.str x) (.str x)
  | ty (n : String) : Rel c w N H (.ty n) (.ty n)
  | cl (C : Str) : Rel c w N H (.cl C) (.ref (c.cA C))
  | adr (a : Addr) : Rel c w N H (.adr a) (.ref a)
  | ref {n : Nat} (h : n < N) : Rel c w N H (.ref n) (.ref (w.i n))
  | tup {a : Addr} {xs : List D} {vs : List V} (h : SqT c.K H a vs) (hs : RelL c w N H xs vs) : Rel c w N H (.tup xs) (.ref a)
  | lst {a : Addr} {xs : List D} {vs : List V} (h : H a = some (.lst vs)) (r : ¬ w.R a) (hs : RelL c w N H xs vs) : Rel c w N H (.lst xs) (.ref a)
  | scr {a : Addr} {ns : List Int} (h : (Rd H a (.lst (ns.map V.int)) ∧ ¬ w.R a) ∨ ScK c.K a ns) : Rel c w N H (.scr ns) (.ref a)
  | obj {a dx : Addr} {C : Str} {ns : List Str} {ds : List D} {fs : List (Str × V)} (h : H a = some (.ins (c.cA C) dx fs)) (r : ¬ w.R a) (hn : fs.map (·.1) = ns) (hs : RelL c w N H ds (fs.map (·.2))) : Rel c w N H (.obj C ns ds) (.ref a)
inductive RelL (c : Cg) (w : Wd) (N : Nat) (H : Hp) : List D → List V → Prop
  | nil : RelL c w N H [] []
  | cons {d : D} {v : V} {ds : List D} {vs : List V} (h : Rel c w N H d v) (hs : RelL c w N H ds vs) : RelL c w N H (d :: ds) (v :: vs)
end
/-- what a step leaves -/
structure Stp (w : Wd) (N : Nat) (H : Hp) (w' : Wd) (N' : Nat) (H' : Hp) : Prop where
  le : N ≤ N'
  ids : ∀ n, n < N → w'.i n = w.i n
  new : ∀ n, N ≤ n → n < N' → H (w'.i n) = none
  up : ∀ a, w.R a → w'.R a
  res : ∀ a, w'.R a → w.R a ∨ H a = none
  fro : ∀ a o, H a = some o → ¬ w.R a → H' a = some o
  rsv : ∀ a o, H a = some o → w.R a → (∀ n, n < N → w.i n ≠ a) → H' a = some o
  dom : ∀ a o, H a = some o → ∃ o', H' a = some o'
  tups : ∀ a xs, Rd H a (.tup xs) → Rd H' a (.tup xs)
theorem Stp.refl {w : Wd} {N : Nat} {H : Hp} : Stp w N H w N H := ⟨Nat.le_refl _, fun _ _ => rfl, fun n h1 h2 => absurd h2 (by omega), fun _ h => h, fun _ h => .inl h, fun _ _ h _ => h, fun _ _ h _ _ => h, fun _ o h => ⟨o, h⟩, fun _ _ h => h⟩
theorem Stp.free {w w' : Wd} {N N' : Nat} {H H' : Hp} (s : Stp w N H w' N' H') {a : Addr} (h : H' a = none) : H a = none := by
  cases e : H a with
  | none => rfl
  | some o =>
    obtain ⟨o', e'⟩ := s.dom a o e
    rw [h] at e'; cases e'
theorem Stp.trans {w w1 w2 : Wd} {N N1 N2 : Nat} {H H1 H2 : Hp} (s : Stp w N H w1 N1 H1) (t : Stp w1 N1 H1 w2 N2 H2) : Stp w N H w2 N2 H2 := by
  refine ⟨Nat.le_trans s.le t.le, fun n hn => (t.ids n (Nat.lt_of_lt_of_le hn s.le)).trans (s.ids n hn), fun n h1 h2 => ?_, fun a h => t.up a (s.up a h), fun a h => ?_, fun a o e h => ?_, fun a o e h k => ?_, fun a o e => ?_, fun a xs h => t.tups a xs (s.tups a xs h)⟩
  · by_cases hn : n < N1
    · rw [t.ids n hn]; exact s.new n h1 hn
    · exact s.free (t.new n (by omega) h2)
  · rcases t.res a h with h | h
    · exact s.res a h
    · exact .inr (s.free h)
  · refine t.fro a o (s.fro a o e h) fun z => ?_
    rcases s.res a z with z | z
    · exact h z
    · rw [z] at e; cases e
  · refine t.rsv a o (s.rsv a o e h k) (s.up a h) fun n hn z => ?_
    by_cases h1 : n < N
    · rw [s.ids n h1] at z; exact k n h1 z
    · have q := s.new n (by omega) hn
      rw [z, e] at q; cases q
  · obtain ⟨o1, e1⟩ := s.dom a o e
    exact t.dom a o1 e1
/-- the part of a step that things of trees want -/
structure Stp0 (w : Wd) (N : Nat) (H : Hp) (w' : Wd) (N' : Nat) (H' : Hp) : Prop where
  le : N ≤ N'
  ids : ∀ n, n < N → w'.i n = w.i n
  res : ∀ a, w'.R a → w.R a ∨ H a = none
  fro : ∀ a o, H a = some o → ¬ w.R a → H' a = some o
  tups : ∀ a xs, Rd H a (.tup xs) → Rd H' a (.tup xs)
theorem Stp.to0 {w w' : Wd} {N N' : Nat} {H H' : Hp} (s : Stp w N H w' N' H') : Stp0 w N H w' N' H' := ⟨s.le, s.ids, s.res, s.fro, s.tups⟩
section
variable {c : Cg} {w w' : Wd} {N N' : Nat} {H H' : Hp}
theorem Rd.fro0 (s : Stp0 w N H w' N' H') {a : Addr} {u : HO} (h : Rd H a u) (r : ¬ w.R a) : Rd H' a u ∧ ¬ w'.R a := by
  have nz : ∀ o, H a = some o → ¬ w'.R a := fun o e z => by
    rcases s.res a z with z | z
    · exact r z
    · rw [z] at e; cases e
  rcases h with h | ⟨o, h⟩
  · exact ⟨.inl (s.fro _ _ h r), nz _ h⟩
  · exact ⟨.inr ⟨o, s.fro _ _ h r⟩, nz _ h⟩
theorem Rd.fro (s : Stp w N H w' N' H') {a : Addr} {u : HO} (h : Rd H a u) (r : ¬ w.R a) : Rd H' a u ∧ ¬ w'.R a := Rd.fro0 s.to0 h r
theorem SqT.stp0 (s : Stp0 w N H w' N' H') {a : Addr} {vs : List V} (h : SqT c.K H a vs) : SqT c.K H' a vs := h.elim (fun h => .inl (s.tups _ _ h)) .inr
mutual
theorem Rel.stp0 (s : Stp0 w N H w' N' H') : ∀ {d : D} {v : V}, Rel c w N H d v → Rel c w' N' H' d v
  | _, _, .non => .non
  | _, _, .bl b => .bl b
  | _, _, .int i => .int i
  | _, _, .str x => .str x
  | _, _, .ty n => .ty n
  | _, _, .cl C => .cl C
  | _, _, .adr a => .adr a
  | _, _, .ref (n := n) h => by
    rw [← s.ids n h]
    exact .ref (Nat.lt_of_lt_of_le h s.le)
  | _, _, .tup h hs => .tup (SqT.stp0 s h) (RelL.stp0 s hs)
  | _, _, .lst h r hs => .lst (s.fro _ _ h r) (Rd.fro0 s (.inl h) r).2 (RelL.stp0 s hs)
  | _, _, .scr h => .scr (h.imp (fun z => Rd.fro0 s z.1 z.2) fun z => z)
  | _, _, .obj h r hn hs => .obj (s.fro _ _ h r) (Rd.fro0 s (.inl h) r).2 hn (RelL.stp0 s hs)
theorem RelL.stp0 (s : Stp0 w N H w' N' H') : ∀ {ds : List D} {vs : List V}, RelL c w N H ds vs → RelL c w' N' H' ds vs
  | _, _, .nil => .nil
  | _, _, .cons h hs => .cons (Rel.stp0 s h) (RelL.stp0 s hs)
end
theorem Rel.stp (s : Stp w N H w' N' H') {d : D} {v : V} (h : Rel c w N H d v) : Rel c w' N' H' d v := h.stp0 s.to0
theorem RelL.stp (s : Stp w N H w' N' H') {ds : List D} {vs : List V} (h : RelL c w N H ds vs) : RelL c w' N' H' ds vs := h.stp0 s.to0
theorem RelL.len : ∀ {ds : List D} {vs : List V}, RelL c w N H ds vs → ds.length = vs.length
  | _, _, .nil => rfl
  | _, _, .cons _ hs => by simp [RelL.len hs]
theorem RelL.get : ∀ {ds : List D} {vs : List V} {i : Nat} {d : D}, RelL c w N H ds vs → ds[i]? = some d → ∃ v, vs[i]? = some v ∧ Rel c w N H d v
  | _, _, _, _, .nil, e => by simp at e
  | _, _, 0, _, .cons h _, e => by simp at e; subst e; exact ⟨_, rfl, h⟩
  | _, _, i + 1, d, .cons _ hs, e => by
    obtain ⟨v, h1, h2⟩ := RelL.get (i := i) (d := d) hs (by simpa using e)
    exact ⟨v, by simpa using h1, h2⟩
theorem RelL.getV : ∀ {ds : List D} {vs : List V} {i : Nat} {v : V}, RelL c w N H ds vs → vs[i]? = some v → ∃ d, ds[i]? = some d ∧ Rel c w N H d v
  | _, _, _, _, .nil, e => by simp at e
  | _, _, 0, _, .cons h _, e => by simp at e; subst e; exact ⟨_, rfl, h⟩
  | _, _, i + 1, v, .cons _ hs, e => by
    obtain ⟨d, h1, h2⟩ := RelL.getV (i := i) (v := v) hs (by simpa using e)
    exact ⟨d, by simpa using h1, h2⟩
theorem RelL.append : ∀ {ds es : List D} {vs ws : List V}, RelL c w N H ds vs → RelL c w N H es ws → RelL c w N H (ds ++ es) (vs ++ ws)
  | _, _, _, _, .nil, s => s
  | _, _, _, _, .cons h hs, s => .cons h (RelL.append hs s)
theorem RelL.set : ∀ {ds : List D} {vs : List V} {d : D} {v : V} (i : Nat), RelL c w N H ds vs → Rel c w N H d v → RelL c w N H (ds.set i d) (vs.set i v)
  | _, _, _, _, _, .nil, _ => .nil
  | _, _, _, _, 0, .cons _ hs, hv => .cons hv hs
  | _, _, _, _, i + 1, .cons h hs, hv => .cons h (RelL.set i hs hv)
theorem RelL.take : ∀ {ds : List D} {vs : List V} (n : Nat), RelL c w N H ds vs → RelL c w N H (ds.take n) (vs.take n)
  | _, _, 0, _ => .nil
  | _, _, _ + 1, .nil => .nil
  | _, _, n + 1, .cons h hs => .cons h (RelL.take n hs)
theorem RelL.drop : ∀ {ds : List D} {vs : List V} (n : Nat), RelL c w N H ds vs → RelL c w N H (ds.drop n) (vs.drop n)
  | _, _, 0, h => h
  | _, _, _ + 1, .nil => .nil
  | _, _, n + 1, .cons _ hs => RelL.drop n hs
end
/-- an object of the row, at its address -/
def RelO (c : Cg) (w : Wd) (N : Nat) (H : Hp) : O → Addr → Prop
  | .lst xs, a => ∃ vs, H a = some (.lst vs) ∧ RelL c w N H xs vs
  | .ins C fs, a => ∃ dx fs', H a = some (.ins (c.cA C) dx fs') ∧ fs'.map (·.1) = fs.map (·.1) ∧ RelL c w N H (fs.map (·.2)) (fs'.map (·.2))
  | .dct kvs, a => ∃ kvs', H a = some (.dK kvs') ∧ kvs'.map (·.1) = kvs.map (fun p => Sum.inr p.1) ∧ RelL c w N H (kvs.map (·.2)) (kvs'.map (·.2))
structure Wf (c : Cg) (w : Wd) (S : Sto) (H : Hp) : Prop where
  res : ∀ n, n < S.length → w.R (w.i n)
  held : ∀ a, w.R a → ∃ o, H a = some o
  inj : ∀ n m, n < S.length → m < S.length → w.i n = w.i m → n = m
  obj : ∀ n o, S[n]? = some o → RelO c w S.length H o (w.i n)
theorem RelO.isAt {c : Cg} {w : Wd} {N : Nat} {H : Hp} {o : O} {a : Addr} (h : RelO c w N H o a) : ∃ ho, H a = some ho ∧ (∀ xs, ho ≠ .tup xs) ∧ ∀ q xs, ho ≠ .frz q (.tup xs) := by
  cases o with
  | lst xs => obtain ⟨vs, e, _⟩ := h; exact ⟨_, e, (fun _ z => by cases z), (fun _ _ z => by cases z)⟩
  | ins C fs => obtain ⟨dx, fs', e, _⟩ := h; exact ⟨_, e, (fun _ z => by cases z), (fun _ _ z => by cases z)⟩
  | dct kvs => obtain ⟨kvs', e, _⟩ := h; exact ⟨_, e, (fun _ z => by cases z), (fun _ _ z => by cases z)⟩
theorem Wf.fresh {c : Cg} {w : Wd} {S : Sto} {H : Hp} (f : Wf c w S H) {p : Addr} (h : H p = none) : ¬ w.R p := fun z => by
  obtain ⟨o, e⟩ := f.held p z
  rw [h] at e; cases e
theorem RelO.at {c : Cg} {w w' : Wd} {N N' : Nat} {H H' : Hp} (s : Stp w N H w' N' H') {o : O} {a : Addr} (h : RelO c w N H o a) (e : ∀ x, H a = some x → H' a = some x) : RelO c w' N' H' o a := by
  cases o with
  | lst xs => obtain ⟨vs, h1, h2⟩ := h; exact ⟨vs, e _ h1, h2.stp s⟩
  | ins C fs => obtain ⟨dx, fs', h1, h2, h3⟩ := h; exact ⟨dx, fs', e _ h1, h2, h3.stp s⟩
  | dct kvs => obtain ⟨kvs', h1, h2, h3⟩ := h; exact ⟨kvs', e _ h1, h2, h3.stp s⟩
theorem RelO.at0 {c : Cg} {w w' : Wd} {N N' : Nat} {H H' : Hp} (s : Stp0 w N H w' N' H') {o : O} {a : Addr} (h : RelO c w N H o a) (e : ∀ x, H a = some x → H' a = some x) : RelO c w' N' H' o a := by
  cases o with
  | lst xs => obtain ⟨vs, h1, h2⟩ := h; exact ⟨vs, e _ h1, h2.stp0 s⟩
  | ins C fs => obtain ⟨dx, fs', h1, h2, h3⟩ := h; exact ⟨dx, fs', e _ h1, h2, h3.stp0 s⟩
  | dct kvs => obtain ⟨kvs', h1, h2, h3⟩ := h; exact ⟨kvs', e _ h1, h2, h3.stp0 s⟩
/-- an address that one keeps for oneself changes -/
theorem Stp0.mine {w : Wd} {N : Nat} {H : Hp} {p : Addr} {o' : HO} {o : List V} (hR : w.R p) (h : H p = some (.lst o)) : Stp0 w N H w N (upd H p o') := by
  refine ⟨Nat.le_refl _, fun _ _ => rfl, fun _ h => .inl h, fun a u e r => by rw [upd_ne (fun (z : a = p) => r (by rw [z]; exact hR))]; exact e, fun a xs hx => ?_⟩
  have z : a ≠ p := fun z => by subst z; rcases hx with hx | ⟨q, hx⟩ <;> rw [h] at hx <;> cases hx
  rcases hx with hx | ⟨q, hx⟩
  · exact .inl (by rw [upd_ne z]; exact hx)
  · exact .inr ⟨q, by rw [upd_ne z]; exact hx⟩
theorem Wf.mine {c : Cg} {w : Wd} {S : Sto} {H : Hp} {p : Addr} {o' : HO} {vs : List V} (f : Wf c w S H) (hR : w.R p) (h : H p = some (.lst vs)) (ni : ∀ n, n < S.length → w.i n ≠ p) : Wf c w S (upd H p o') := by
  refine ⟨f.res, fun a ha => ?_, f.inj, fun n o e => ?_⟩
  · by_cases z : a = p
    · subst z; exact ⟨_, upd_same⟩
    · obtain ⟨u, e⟩ := f.held a ha
      exact ⟨u, by rw [upd_ne z]; exact e⟩
  · have hn : n < S.length := (List.getElem?_eq_some_iff.mp e).1
    exact RelO.at0 (Stp0.mine hR h) (f.obj n o e) fun x hx => by rw [upd_ne (ni n hn)]; exact hx
/-- an object that H does not know changes -/
theorem Stp.mut {w w' : Wd} {N N' : Nat} {H H' : Hp} {p : Addr} {o : HO} (s : Stp w N H w' N' H') (hp : H p = none) : Stp w N H w' N' (upd H' p o) := by
  have k : ∀ a u x, H a = some u → H' a = some x → upd H' p o a = some x := fun a u x e e' => by rw [upd_ne (ne_of_none e hp)]; exact e'
  refine ⟨s.le, s.ids, s.new, s.up, s.res, fun a u e h => k a u u e (s.fro a u e h), fun a u e h z => k a u u e (s.rsv a u e h z), fun a u e => ?_, fun a xs h => ?_⟩
  · obtain ⟨u', e'⟩ := s.dom a u e
    exact ⟨u', k a u u' e e'⟩
  · have ne : a ≠ p := fun z => by subst z; rcases h with h | ⟨q, h⟩ <;> rw [hp] at h <;> cases h
    rcases s.tups a xs h with h' | ⟨q, h'⟩
    · exact .inl (by rw [upd_ne ne]; exact h')
    · exact .inr ⟨q, by rw [upd_ne ne]; exact h'⟩
section
variable {c : Cg} {w w' : Wd} {S : Sto} {H : Hp}
/-- a new object that nobody changes -/
theorem Stp.alloc {N : Nat} {p : Addr} (hp : H p = none) (o : HO) : Stp w N H w N (upd H p o) := by
  have k : ∀ a u, H a = some u → upd H p o a = some u := fun a u e => by rw [upd_ne (ne_of_none e hp)]; exact e
  refine ⟨Nat.le_refl _, fun _ _ => rfl, fun n h1 h2 => absurd h2 (by omega), fun _ h => h, fun _ h => .inl h, fun a u e _ => k a u e, fun a u e _ _ => k a u e, fun a u e => ⟨u, k a u e⟩, fun a xs h => ?_⟩
  rcases h with h | ⟨q, h⟩
  · exact .inl (k _ _ h)
  · exact .inr ⟨q, k _ _ h⟩
theorem Stp.same {N : Nat} {H' : Hp} (g : Same H H') : Stp w N H w N H' :=
  ⟨Nat.le_refl _, fun _ _ => rfl, fun n h1 h2 => absurd h2 (by omega), fun _ h => h, fun _ h => .inl h, fun a u e _ => g a u e, fun a u e _ _ => g a u e, fun a u e => ⟨u, g a u e⟩, fun a xs h => h.elim (fun h => .inl (g _ _ h)) fun ⟨q, h⟩ => .inr ⟨q, g _ _ h⟩⟩
theorem Wf.same {H' : Hp} (f : Wf c w S H) (g : Same H H') : Wf c w S H' :=
  ⟨f.res, (fun a h => (f.held a h).imp fun o e => g a o e), f.inj, fun n o e => RelO.at (h := f.obj n o e) (Stp.same g) fun x h => g _ _ h⟩
theorem Wf.alloc (f : Wf c w S H) {p : Addr} (hp : H p = none) (o : HO) : Wf c w S (upd H p o) := f.same (same_new hp o)
/-- an address that is kept for oneself -/
def Wd.hold (w : Wd) (p : Addr) : Wd := { w with R := fun a => w.R a ∨ a = p }
theorem Stp.hold {N : Nat} {p : Addr} (hp : H p = none) (o : HO) : Stp w N H (w.hold p) N (upd H p o) := by
  have s := Stp.alloc (w := w) (N := N) hp o
  exact ⟨s.le, s.ids, s.new, fun _ h => .inl h, fun a h => h.elim .inl fun e => .inr (e ▸ hp), s.fro, s.rsv, s.dom, s.tups⟩
theorem Wf.hold (f : Wf c w S H) {p : Addr} (hp : H p = none) (o : HO) : Wf c (w.hold p) S (upd H p o) :=
  ⟨fun n hn => .inl (f.res n hn), (fun a h => h.elim (fun h => (f.held a h).imp fun u e => by rw [upd_ne (ne_of_none e hp)]; exact e) fun e => ⟨o, by rw [e]; exact upd_same⟩), f.inj, fun n u e => RelO.at (h := f.obj n u e) (Stp.hold hp o) fun x h => by rw [upd_ne (ne_of_none h hp)]; exact h⟩
/-- a new object of the row -/
def Wd.push (w : Wd) (N : Nat) (p : Addr) : Wd := ⟨fun a => w.R a ∨ a = p, fun n => if n = N then p else w.i n⟩
theorem Stp.push {N : Nat} {p : Addr} {H' : Hp} (hp : H p = none) (g : Same H H') : Stp w N H (w.push N p) (N + 1) H' := by
  have s := Stp.same (w := w) (N := N) g
  refine ⟨Nat.le_succ _, fun n hn => if_neg (Nat.ne_of_lt hn), fun n h1 h2 => ?_, fun _ h => .inl h, fun a h => h.elim .inl fun e => .inr (e ▸ hp), s.fro, s.rsv, s.dom, s.tups⟩
  have e : n = N := by omega
  subst e
  show H (if n = n then p else w.i n) = none
  rw [if_pos rfl]; exact hp
theorem Wf.push {H' : Hp} (f : Wf c w S H) {p : Addr} (hp : H p = none) (g : Same H H') {o : O} (ho : RelO c (w.push S.length p) (S.length + 1) H' o p) : Wf c (w.push S.length p) (S ++ [o]) H' := by
  have len : (S ++ [o]).length = S.length + 1 := by simp
  have old : ∀ n, n < S.length → (w.push S.length p).i n = w.i n := fun n hn => if_neg (Nat.ne_of_lt hn)
  have nw : (w.push S.length p).i S.length = p := if_pos rfl
  have ne : ∀ n, n < S.length → w.i n ≠ p := fun n hn z => by
    obtain ⟨ho, e, _⟩ := RelO.isAt (f.obj n S[n] (by simp))
    rw [z, hp] at e; cases e
  have sp : ∀ n, n < S.length + 1 → n = S.length ∨ n < S.length := fun n h => by omega
  refine ⟨fun n hn => ?_, (fun a h => h.elim (fun h => (f.held a h).imp fun u e => g a u e) fun e => by obtain ⟨x, hx, _⟩ := RelO.isAt ho; exact ⟨x, by rw [e]; exact hx⟩), fun n m hn hm e => ?_, fun n u e => ?_⟩
  · rw [len] at hn
    rcases sp n hn with rfl | hn
    · rw [nw]; exact .inr rfl
    · rw [old n hn]; exact .inl (f.res n hn)
  · rw [len] at hn hm
    rcases sp n hn with rfl | hn
    · rcases sp m hm with rfl | hm
      · rfl
      · rw [nw, old m hm] at e; exact absurd e.symm (ne m hm)
    · rcases sp m hm with rfl | hm
      · rw [nw, old n hn] at e; exact absurd e (ne n hn)
      · rw [old n hn, old m hm] at e; exact f.inj n m hn hm e
  · rw [len]
    have hn : n < S.length + 1 := by rw [← len]; exact (List.getElem?_eq_some_iff.mp e).1
    rcases sp n hn with rfl | hn
    · have z : u = o := by simpa using e.symm
      subst z
      rw [nw]; exact ho
    · rw [old n hn]
      rw [List.getElem?_append_left hn] at e
      exact RelO.at (h := f.obj n u e) (Stp.push hp g) fun x h => g _ _ h
/-- an object of the row changes -/
theorem Stp.set (f : Wf c w S H) {n : Nat} (hn : n < S.length) (ho : HO) : Stp w S.length H w S.length (upd H (w.i n) ho) := by
  have k : ∀ a u, H a = some u → a ≠ w.i n → upd H (w.i n) ho a = some u := fun a u e h => by rw [upd_ne h]; exact e
  refine ⟨Nat.le_refl _, fun _ _ => rfl, fun n h1 h2 => absurd h2 (by omega), fun _ h => h, fun _ h => .inl h, fun a u e h => k a u e fun z => h (z ▸ f.res n hn), fun a u e _ h => k a u e fun z => h n hn z.symm, fun a u e => ?_, fun a xs h => ?_⟩
  · by_cases z : a = w.i n
    · subst z; exact ⟨ho, upd_same⟩
    · exact ⟨u, k a u e z⟩
  · obtain ⟨hx, e, n1, n2⟩ := RelO.isAt (f.obj n S[n] (by simp))
    have z : a ≠ w.i n := fun z => by
      subst z
      rcases h with h | ⟨q, h⟩ <;> rw [e] at h <;> cases h
      · exact n1 _ rfl
      · exact n2 _ _ rfl
    rcases h with h | ⟨q, h⟩
    · exact .inl (k _ _ h z)
    · exact .inr ⟨q, k _ _ h z⟩
theorem Wf.set (f : Wf c w S H) {n : Nat} (hn : n < S.length) {ho : HO} {o : O} (r : RelO c w S.length (upd H (w.i n) ho) o (w.i n)) : Wf c w (S.set n o) (upd H (w.i n) ho) := by
  refine ⟨fun m hm => f.res m (by simpa using hm), (fun a h => (f.held a h).elim fun u e => (Stp.set f hn ho).dom a u e), fun m k hm hk => f.inj m k (by simpa using hm) (by simpa using hk), fun m u e => ?_⟩
  rw [List.length_set]
  rw [List.getElem?_set] at e
  by_cases z : n = m
  · subst z
    rw [if_pos rfl, if_pos hn] at e
    cases e
    exact r
  · rw [if_neg z] at e
    have hm : m < S.length := (List.getElem?_eq_some_iff.mp e).1
    exact RelO.at (h := f.obj m u e) (Stp.set f hn ho) fun x h => by rw [upd_ne (fun q => z (f.inj n m hn hm q.symm))]; exact h
end
/-! ### readings -/
abbrev Ev := List (Option D)
def RelE (c : Cg) (w : Wd) (N : Nat) (H : Hp) (ρ : Ev) (σ : L2.St) : Prop := ρ.length = σ.length ∧ ∀ (i : Nat) (d : D), ρ[i]? = some (some d) → ∃ v, σ[i]? = some (some v) ∧ Rel c w N H d v
def RelX (c : Cg) (w : Wd) (N : Nat) (H : Hp) (x : Exc) (cls : Value) (d : Option Addr) : Prop := cls = .ref (c.cA x.C) ∧
  match d with
  | none => x.ns = [] ∧ x.vs = []
  | some dd => ∃ fs, H dd = some (.xd fs) ∧ ¬ w.R dd ∧ fs.map (·.1) = x.ns ∧ RelL c w N H x.vs (fs.map (·.2))
abbrev Gx := Option (Exc × Value × Option Addr)
def RelG (c : Cg) (w : Wd) (N : Nat) (H : Hp) : Gx → Prop
  | none => True
  | some (x, cls, d) => RelX c w N H x cls d
structure Sta (c : Cg) (g : Gx) (w : Wd) (ρ : Ev) (S : Sto) (σ : L2.St) (H : Hp) : Prop where
  wf : Wf c w S H
  ev : RelE c w S.length H ρ σ
  gx : RelG c w S.length H g
section
variable {c : Cg} {g : Gx} {w w' : Wd} {ρ : Ev} {S S' : Sto} {σ : L2.St} {H H' : Hp} {N N' : Nat}
theorem RelE.stp (s : Stp w N H w' N' H') (h : RelE c w N H ρ σ) : RelE c w' N' H' ρ σ := ⟨h.1, fun i d e => by
  obtain ⟨v, h1, h2⟩ := h.2 i d e
  exact ⟨v, h1, h2.stp s⟩⟩
theorem RelX.stp (s : Stp w N H w' N' H') {x : Exc} {cls : Value} {d : Option Addr} (h : RelX c w N H x cls d) : RelX c w' N' H' x cls d := by
  refine ⟨h.1, ?_⟩
  have h2 := h.2
  cases d with
  | none => exact h2
  | some dd =>
    obtain ⟨fs, e, r, hn, hs⟩ := h2
    exact ⟨fs, s.fro _ _ e r, (Rd.fro s (.inl e) r).2, hn, hs.stp s⟩
theorem RelG.stp (s : Stp w N H w' N' H') (h : RelG c w N H g) : RelG c w' N' H' g := by
  cases g with
  | none => trivial
  | some x => obtain ⟨x, cls, d⟩ := x; exact RelX.stp s h
theorem Sta.step (st : Sta c g w ρ S σ H) (s : Stp w S.length H w' S'.length H') (f : Wf c w' S' H') : Sta c g w' ρ S' σ H' := ⟨f, st.ev.stp s, st.gx.stp s⟩
theorem RelE.set (h : RelE c w N H ρ σ) {i : Nat} {d : D} {v : V} (r : Rel c w N H d v) : RelE c w N H (ρ.set i (some d)) (σ.set i (some v)) := by
  refine ⟨by simp [h.1], fun j e he => ?_⟩
  rw [List.getElem?_set] at he ⊢
  by_cases z : i = j
  · subst z
    rw [if_pos rfl] at he ⊢
    by_cases l : i < ρ.length
    · rw [if_pos l] at he
      cases he
      rw [if_pos (h.1 ▸ l)]
      exact ⟨v, rfl, r⟩
    · rw [if_neg l] at he; cases he
  · rw [if_neg z] at he ⊢
    exact h.2 j e he
theorem RelE.unset (h : RelE c w N H ρ σ) {i : Nat} : RelE c w N H (ρ.set i none) (σ.set i none) := by
  refine ⟨by simp [h.1], fun j e he => ?_⟩
  rw [List.getElem?_set] at he ⊢
  by_cases z : i = j
  · subst z
    rw [if_pos rfl] at he
    split at he <;> cases he
  · rw [if_neg z] at he ⊢
    exact h.2 j e he
end
abbrev XQ := Exc → Sto → Prop
abbrev AM (α : Type) := Ev → Sto → (α → Sto → Prop) → XQ → Prop
def aBind {α β : Type} (t : AM α) (f : α → AM β) : AM β := fun ρ S Q E => t ρ S (fun a S1 => f a ρ S1 Q E) E
section
variable {α β γ δ : Type} {c : Cg} {g : Gx} {W : WX}
def upW (c : Cg) (W : WX) (r : Wd → Nat → Hp → α → β → Prop) (t : AM α) (w : Wd) (ρ : Ev) (S : Sto) (σ : L2.St) (H : Hp) (Q : β → Hp → Prop) : Prop :=
  ∃ (Q' : α → Sto → Prop) (E' : XQ), t ρ S Q' E' ∧ (∀ w' S' H' a b, Stp w S.length H w' S'.length H' → Wf c w' S' H' → r w' S'.length H' a b → Q' a S' → Q b H') ∧
    ∀ w' S' H' x cls d, Stp w S.length H w' S'.length H' → Wf c w' S' H' → RelX c w' S'.length H' x cls d → E' x S' → W cls d σ H'
def up (c : Cg) (g : Gx) (W : WX) (r : Wd → Nat → Hp → α → β → Prop) (t : AM α) : L2.St → Hp → (β → Hp → Prop) → Prop := fun σ H Q =>
  ∃ w ρ S, Sta c g w ρ S σ H ∧ upW c W r t w ρ S σ H Q
variable {r : Wd → Nat → Hp → α → β → Prop} {r2 : Wd → Nat → Hp → γ → δ → Prop} {t : AM α} {f : α → AM γ} {w : Wd} {ρ : Ev} {S : Sto} {σ : L2.St} {H : Hp} {Q : δ → Hp → Prop}
theorem upW.mono {Q Q' : β → Hp → Prop} (h : upW c W r t w ρ S σ H Q) (k : ∀ b H, Q b H → Q' b H) : upW c W r t w ρ S σ H Q' := by
  obtain ⟨Q1, E1, ht, hq, he⟩ := h
  exact ⟨Q1, E1, ht, fun w' S' H' a b s f r z => k _ _ (hq w' S' H' a b s f r z), he⟩
theorem up.mono {Q Q' : β → Hp → Prop} (h : up c g W r t σ H Q) (k : ∀ b H, Q b H → Q' b H) : up c g W r t σ H Q' := by
  obtain ⟨w, ρ, S, st, h⟩ := h
  exact ⟨w, ρ, S, st, h.mono k⟩
theorem upW.bind (st : Sta c g w ρ S σ H) (h : upW c W r2 (aBind t f) w ρ S σ H Q) :
    up c g W r t σ H (fun b H1 => ∃ w1 S1 a, Sta c g w1 ρ S1 σ H1 ∧ Stp w S.length H w1 S1.length H1 ∧ r w1 S1.length H1 a b ∧ upW c W r2 (f a) w1 ρ S1 σ H1 Q) := by
  obtain ⟨Q', E', ht, hq, he⟩ := h
  refine ⟨w, ρ, S, st, fun a S1 => f a ρ S1 Q' E', E', ht, fun w1 S1 H1 a b s1 f1 r1 hf => ?_, he⟩
  exact ⟨w1, S1, a, st.step s1 f1, s1, r1, Q', E', hf, fun w' S' H' a b s f r z => hq w' S' H' a b (s1.trans s) f r z, fun w' S' H' x cls d s f r z => he w' S' H' x cls d (s1.trans s) f r z⟩
end
end A

set_option Elab.async false
set_option linter.all false
set_option maxRecDepth 100000
set_option maxHeartbeats 4000000
namespace A
open PySem PySem.Spec PyProof.Rows L2
/-! ### views -/
def opt {α : Type} : Option α → (α → Prop) → Prop
  | some a, f => f a
  | none, _ => False
def asI : D → Option Int
  | .int i => some i
  | _ => none
def asB : D → Option Bool
  | .bl b => some b
  | _ => none
def asS : D → Option Str
  | .str x => some x
  | _ => none
def asT : D → Option (List D)
  | .tup xs => some xs
  | _ => none
/-- a list that is tracked -/
def lv (S : Sto) : D → Option (List D)
  | .lst xs => some xs
  | .ref n => match S[n]? with
    | some (.lst xs) => some xs
    | _ => none
  | _ => none
/-- a list, a tuple, the script -/
def sv (S : Sto) : D → Option (List D)
  | .lst xs => some xs
  | .tup xs => some xs
  | .scr ns => some (ns.map D.int)
  | .ref n => match S[n]? with
    | some (.lst xs) => some xs
    | _ => none
  | _ => none
def big : Nat := 16000000
theorem big_le {n : Nat} (h : n ≤ big) : n ≤ sizeLine := Nat.le_trans h (by decide)
theorem big_lt {n : Nat} (h : n < big) : n < sizeLine := Nat.lt_of_lt_of_le h (by decide)
theorem opt_some {α : Type} {o : Option α} {f : α → Prop} (h : opt o f) : ∃ a, o = some a ∧ f a := by
  cases o with
  | none => exact h.elim
  | some a => exact ⟨a, rfl, h⟩
section
variable {c : Cg} {w : Wd} {S : Sto} {N : Nat} {H : Hp} {d : D} {x : V}
theorem asI_rel {i : Int} (h : asI d = some i) (r : Rel c w N H d x) : d = .int i ∧ x = .int i := by
  cases d <;> simp [asI] at h
  subst h; cases r; exact ⟨rfl, rfl⟩
theorem asB_rel {b : Bool} (h : asB d = some b) (r : Rel c w N H d x) : d = .bl b ∧ x = .bl b := by
  cases d <;> simp [asB] at h
  subst h; cases r; exact ⟨rfl, rfl⟩
theorem asS_rel {z : Str} (h : asS d = some z) (r : Rel c w N H d x) : d = .str z ∧ x = .str z := by
  cases d <;> simp [asS] at h
  subst h; cases r; exact ⟨rfl, rfl⟩
theorem asT_rel {xs : List D} (h : asT d = some xs) (r : Rel c w N H d x) : ∃ a vs, x = .ref a ∧ SqT c.K H a vs ∧ RelL c w N H xs vs := by
  cases d <;> simp [asT] at h
  subst h
  cases r with
  | tup h hs => exact ⟨_, _, rfl, h, hs⟩
theorem lv_rel (f : Wf c w S H) {xs : List D} (h : lv S d = some xs) (r : Rel c w S.length H d x) : ∃ a vs, x = .ref a ∧ H a = some (.lst vs) ∧ RelL c w S.length H xs vs := by
  cases r with
  | lst h1 h2 h3 => simp [lv] at h; subst h; exact ⟨_, _, rfl, h1, h3⟩
  | @ref n hn =>
    simp only [lv] at h
    cases e : S[n]? with
    | none => rw [e] at h; cases h
    | some o =>
      rw [e] at h
      cases o with
      | lst ys =>
        cases h
        obtain ⟨vs, h1, h2⟩ := f.obj n _ e
        exact ⟨_, vs, rfl, h1, h2⟩
      | ins C fs => cases h
      | dct kvs => cases h
  | _ => simp [lv] at h
theorem sv_rel (f : Wf c w S H) {xs : List D} (h : sv S d = some xs) (r : Rel c w S.length H d x) : ∃ a vs, x = .ref a ∧ (SqL c.K H a vs ∨ SqT c.K H a vs) ∧ RelL c w S.length H xs vs := by
  cases r with
  | lst h1 h2 h3 => simp [sv] at h; subst h; exact ⟨_, _, rfl, .inl (SqL.of h1), h3⟩
  | tup h1 h3 => simp [sv] at h; subst h; exact ⟨_, _, rfl, .inr h1, h3⟩
  | @scr a ns h1 =>
    simp [sv] at h; subst h
    refine ⟨_, _, rfl, .inl (scr_sq h1), ?_⟩
    clear h1
    induction ns with
    | nil => exact .nil
    | cons n ns ih => exact .cons (.int n) ih
  | @ref n hn =>
    simp only [sv] at h
    cases e : S[n]? with
    | none => rw [e] at h; cases h
    | some o =>
      rw [e] at h
      cases o with
      | lst ys =>
        cases h
        obtain ⟨vs, h1, h2⟩ := f.obj n _ e
        exact ⟨_, vs, rfl, .inl (SqL.of h1), h2⟩
      | ins C fs => cases h
      | dct kvs => cases h
  | _ => simp [sv] at h
/-- all are intsD, boolsD -/
def intsD : List D → Option (List Int)
  | [] => some []
  | .int i :: r => (intsD r).map (i :: ·)
  | _ :: _ => none
def boolsD : List D → Option (List Bool)
  | [] => some []
  | .bl b :: r => (boolsD r).map (b :: ·)
  | _ :: _ => none
theorem ints_rel : ∀ {ds : List D} {vs : List V} {ns : List Int}, intsD ds = some ns → RelL c w N H ds vs → vs = ns.map V.int
  | _, _, _, h, .nil => by simp [intsD] at h; subst h; rfl
  | d :: ds, v :: vs, ns, h, .cons r rs => by
    cases d <;> simp [intsD] at h
    obtain ⟨ms, h1, rfl⟩ := h
    cases r
    rw [ints_rel h1 rs]
    rfl
theorem bools_rel : ∀ {ds : List D} {vs : List V} {ns : List Bool}, boolsD ds = some ns → RelL c w N H ds vs → vs = ns.map V.bl
  | _, _, _, h, .nil => by simp [boolsD] at h; subst h; rfl
  | d :: ds, v :: vs, ns, h, .cons r rs => by
    cases d <;> simp [boolsD] at h
    obtain ⟨ms, h1, rfl⟩ := h
    cases r
    rw [bools_rel h1 rs]
    rfl
theorem ints_map : ∀ (ns : List Int), intsD (ns.map D.int) = some ns
  | [] => rfl
  | n :: ns => by simp [intsD, ints_map ns]
theorem bools_map : ∀ (ns : List Bool), boolsD (ns.map D.bl) = some ns
  | [] => rfl
  | n :: ns => by simp [boolsD, bools_map ns]
end
/-! ### data -/
mutual
def pd : D → PyData
  | .non => .none
  | .bl b => .bool b
  | .int i => .int i
  | .str x => .str x
  | .tup xs => .tuple (pds xs)
  | .lst xs => .list (pds xs)
  | _ => .none
def pds : List D → List PyData
  | [] => []
  | d :: r => pd d :: pds r
end
mutual
def isPd : D → Bool
  | .non => true
  | .bl _ => true
  | .int _ => true
  | .str _ => true
  | .tup xs => isPds xs
  | .lst xs => isPds xs
  | _ => false
def isPds : List D → Bool
  | [] => true
  | d :: r => isPd d && isPds r
end
/-- data that can be held against each other -/
def dat (d : D) : Bool := isPd d && SeqAt.shaped (pd d)
def eqD (d e : D) : Bool := PyData.eqv (pd d) (pd e)
section
variable {c : Cg} {w : Wd} {N : Nat} {H : Hp}
mutual
theorem Rel.dp : ∀ {d : D} {v : V}, isPd d = true → Rel c w N H d v → Dp c.K H v (pd d)
  | _, _, _, .non => .non
  | _, _, _, .bl b => .bl b
  | _, _, _, .int i => .int i
  | _, _, _, .str x => .str x
  | .tup xs, _, h, .tup h1 hs => .tup h1 (RelL.dp (by simpa [isPd] using h) hs)
  | .lst xs, _, h, .lst h1 _ hs => .lst (SqL.of h1) (RelL.dp (by simpa [isPd] using h) hs)
  | .obj _ _ _, _, h, _ => by simp [isPd] at h
  | .ref _, _, h, _ => by simp [isPd] at h
  | .ty _, _, h, _ => by simp [isPd] at h
  | .cl _, _, h, _ => by simp [isPd] at h
  | .adr _, _, h, _ => by simp [isPd] at h
  | .scr _, _, h, _ => by simp [isPd] at h
theorem RelL.dp : ∀ {ds : List D} {vs : List V}, isPds ds = true → RelL c w N H ds vs → DpAll c.K H vs (pds ds)
  | _, _, _, .nil => .nil
  | d :: ds, _, h, .cons r rs => by
    have h' : isPd d = true ∧ isPds ds = true := by simpa [isPds] using h
    exact .cons (Rel.dp h'.1 r) (RelL.dp h'.2 rs)
end
end
/-- a list of the row, as it is now -/
def rd (S : Sto) : D → D
  | .ref n => match S[n]? with
    | some (.lst xs) => .lst xs
    | _ => .ref n
  | d => d
theorem rd_dp {c : Cg} {w : Wd} {S : Sto} {H : Hp} {d : D} {v : V} (f : Wf c w S H) (r : Rel c w S.length H d v) (h : isPd (rd S d) = true) : Dp c.K H v (pd (rd S d)) := by
  cases d with
  | ref n =>
    cases r with
    | ref hn =>
      simp only [rd] at h ⊢
      cases e : S[n]? with
      | none => rw [e] at h; simp [isPd] at h
      | some o =>
        rw [e] at h
        cases o with
        | lst ys =>
          obtain ⟨vs, h1, h2⟩ := f.obj n _ e
          exact .lst (SqL.of h1) (RelL.dp (by simpa [isPd] using h) h2)
        | ins C fs => simp [isPd] at h
        | dct kvs => simp [isPd] at h
  | _ => exact Rel.dp h r
/-! ### two-place operations -/
abbrev QD := D → Sto → Prop
abbrev F2 := D → D → Sto → QD → Prop
def OpS (c : Cg) (f : F2) (r : R2) : Prop := ∀ (w : Wd) (S : Sto) (H : Hp) (d e : D) (x y : V) (Q' : QD) (Q : VK), Wf c w S H → Rel c w S.length H d x → Rel c w S.length H e y → f d e S Q' →
  (∀ w' S' H' a b, Stp w S.length H w' S'.length H' → Wf c w' S' H' → Rel c w' S'.length H' a b → Q' a S' → Q b H') → r x y H Q
/-- a value that needs no heap -/
theorem fin0 {c : Cg} {w : Wd} {S : Sto} {H : Hp} {Q' : QD} {Q : VK} (f : Wf c w S H) (k : ∀ w' S' H' a b, Stp w S.length H w' S'.length H' → Wf c w' S' H' → Rel c w' S'.length H' a b → Q' a S' → Q b H') {a : D} {b : V} (r : Rel c w S.length H a b) (q : Q' a S) : Q b H :=
  k w S H a b Stp.refl f r q
/-- a new list, a new tuple -/
theorem finL {c : Cg} {w : Wd} {S : Sto} {H H2 : Hp} {Q' : QD} {Q : VK} (f : Wf c w S H) (k : ∀ w' S' H' a b, Stp w S.length H w' S'.length H' → Wf c w' S' H' → Rel c w' S'.length H' a b → Q' a S' → Q b H') {xs : List D} {vs : List V} {p : Addr}
    (hr : RelL c w S.length H xs vs) (hp : H p = none) (g : Same H H2) (h2 : H2 p = some (.lst vs)) (q : Q' (.lst xs) S) : Q (.ref p) H2 :=
  k w S H2 (.lst xs) (.ref p) (Stp.same g) (f.same g) (.lst h2 (f.fresh hp) (hr.stp (Stp.same g))) q
theorem finT {c : Cg} {w : Wd} {S : Sto} {H H2 : Hp} {Q' : QD} {Q : VK} (f : Wf c w S H) (k : ∀ w' S' H' a b, Stp w S.length H w' S'.length H' → Wf c w' S' H' → Rel c w' S'.length H' a b → Q' a S' → Q b H') {xs : List D} {vs : List V} {p : Addr}
    (hr : RelL c w S.length H xs vs) (g : Same H H2) (h2 : SqT c.K H2 p vs) (q : Q' (.tup xs) S) : Q (.ref p) H2 :=
  k w S H2 (.tup xs) (.ref p) (Stp.same g) (f.same g) (.tup h2 (hr.stp (Stp.same g))) q
end A

set_option Elab.async false
set_option linter.all false
set_option maxRecDepth 100000
set_option maxHeartbeats 4000000
namespace A
open PySem PySem.Spec PyProof.Rows L2
theorem OpR.or {X : Cx} {f : Value → Value → Sem Value} {r r' : R2} (h : OpR X f r) (h' : OpR X f r') : OpR X f (fun x y H Q => r x y H Q ∨ r' x y H Q) := by
  intro pins s σ H x y v u Q I rx ry q
  rcases q with q | q
  · exact h pins s σ H x y v u Q I rx ry q
  · exact h' pins s σ H x y v u Q I rx ry q
theorem CallR.or {X : Cx} {f : Value} {r r' : List V → Hp → VK → Prop} (h : CallR X f r) (h' : CallR X f r') : CallR X f (fun x H Q => r x H Q ∨ r' x H Q) := by
  intro pins s σ H xs us Q I rx q
  rcases q with q | q
  · exact h pins s σ H xs us Q I rx q
  · exact h' pins s σ H xs us Q I rx q
/-! ### + - * // % ** -/
def dAdd : F2
  | .int i, e, S, Q => opt (asI e) fun j => Q (.int (i + j)) S
  | .str a, e, S, Q => opt (asS e) fun b => a.length + b.length ≤ big ∧ Q (.str (a ++ b)) S
  | .tup xs, e, S, Q => opt (asT e) fun ys => xs.length + ys.length ≤ big ∧ Q (.tup (xs ++ ys)) S
  | d, e, S, Q => opt (lv S d) fun xs => opt (lv S e) fun ys => xs.length + ys.length ≤ big ∧ Q (.lst (xs ++ ys)) S
def rAddA (K : PySem.W.Frag) : R2 := fun x y H Q => rI0 (fun i j => .int (i + j)) x y H Q ∨ (∃ i j, x = .str i ∧ y = .str j ∧ i.length + j.length ≤ sizeLine ∧ Q (.str (i ++ j)) H) ∨ rCatTA K x y H Q ∨ rCatL K x y H Q
theorem op_addA {X : Cx} (K : PySem.W.Frag) (hK : X.K = K := by rfl) : OpR X (binaryOp .Add) (rAddA K) := OpR.or op_add (OpR.or op_add_str (OpR.or (kop_catA K hK) (op_catL K)))
theorem os_add {c : Cg} : OpS c dAdd (rAddA c.K) := by
  intro w S H d e x y Q' Q f r1 r2 h k
  have L : (opt (lv S d) fun xs => opt (lv S e) fun ys => xs.length + ys.length ≤ big ∧ Q' (.lst (xs ++ ys)) S) → rAddA c.K x y H Q := fun h => by
    obtain ⟨xs, e1, h⟩ := opt_some h
    obtain ⟨ys, e2, z, q⟩ := opt_some h
    obtain ⟨a, vs, rfl, ha, la⟩ := lv_rel f e1 r1
    obtain ⟨b, us, rfl, hb, lb⟩ := lv_rel f e2 r2
    exact .inr (.inr (.inr ⟨a, b, vs, us, rfl, rfl, ha, hb, by rw [← la.len, ← lb.len]; exact big_le z, fun p H2 hp g h2 => finL f k (la.append lb) hp g h2 q⟩))
  cases d with
  | int i =>
    obtain ⟨j, e1, q⟩ := opt_some h
    obtain ⟨rfl, rfl⟩ := asI_rel e1 r2
    cases r1
    exact .inl ⟨_, _, rfl, rfl, fin0 f k (.int _) q⟩
  | str a =>
    obtain ⟨j, e1, z, q⟩ := opt_some h
    obtain ⟨rfl, rfl⟩ := asS_rel e1 r2
    cases r1
    exact .inr (.inl ⟨_, _, rfl, rfl, big_le z, fin0 f k (.str _) q⟩)
  | tup xs =>
    obtain ⟨ys, e1, z, q⟩ := opt_some h
    obtain ⟨b, us, rfl, hb, lb⟩ := asT_rel e1 r2
    cases r1 with
    | tup ha la => exact .inr (.inr (.inl ⟨_, _, _, _, rfl, rfl, ha, hb, by rw [← la.len, ← lb.len]; exact big_le z, fun p H2 g h2 => finT f k (la.append lb) g h2 q⟩))
  | _ => exact L h
def dI2 (C : Int → Int → Prop) (g : Int → Int → D) : F2 := fun d e S Q => opt (asI d) fun i => opt (asI e) fun j => C i j ∧ Q (g i j) S
theorem os_I2 {c : Cg} {C C' : Int → Int → Prop} {g : Int → Int → D} {g' : Int → Int → V} (hC : ∀ i j, C i j → C' i j) (hg : ∀ w N H i j, Rel c w N H (g i j) (g' i j)) : OpS c (dI2 C g) (rI C' g') := by
  intro w S H d e x y Q' Q f r1 r2 h k
  obtain ⟨i, e1, h⟩ := opt_some h
  obtain ⟨j, e2, hc, q⟩ := opt_some h
  obtain ⟨rfl, rfl⟩ := asI_rel e1 r1
  obtain ⟨rfl, rfl⟩ := asI_rel e2 r2
  exact ⟨i, j, rfl, rfl, hC i j hc, fin0 f k (hg _ _ _ i j) q⟩
def dI20 (g : Int → Int → D) : F2 := fun d e S Q => opt (asI d) fun i => opt (asI e) fun j => Q (g i j) S
theorem os_I20 {c : Cg} {g : Int → Int → D} {g' : Int → Int → V} (hg : ∀ w N H i j, Rel c w N H (g i j) (g' i j)) : OpS c (dI20 g) (rI0 g') := by
  intro w S H d e x y Q' Q f r1 r2 h k
  obtain ⟨i, e1, h⟩ := opt_some h
  obtain ⟨j, e2, q⟩ := opt_some h
  obtain ⟨rfl, rfl⟩ := asI_rel e1 r1
  obtain ⟨rfl, rfl⟩ := asI_rel e2 r2
  exact ⟨i, j, rfl, rfl, fin0 f k (hg _ _ _ i j) q⟩
def dSub : F2 := dI20 fun i j => .int (i - j)
theorem os_sub {c : Cg} : OpS c dSub (rI0 fun i j => .int (i - j)) := os_I20 fun _ _ _ _ _ => .int _
def mulOk (i j : Int) : Prop := CMul i j ∨ CMulW i j
theorem op_mulA {X : Cx} : OpR X (binaryOp .Mult) (rI mulOk fun i j => .int (i * j)) := by
  intro pins s σ H x y v u Q I rx ry h
  obtain ⟨i, j, e1, e2, hc, q⟩ := h
  rcases hc with hc | hc
  · exact op_mul pins s σ H x y v u Q I rx ry ⟨i, j, e1, e2, hc, q⟩
  · exact op_mulW pins s σ H x y v u Q I rx ry ⟨i, j, e1, e2, hc, q⟩
def repD (xs : List D) (k : Int) : List D := (List.replicate k.toNat xs).flatten
theorem RelL.rep {c : Cg} {w : Wd} {N : Nat} {H : Hp} {xs : List D} {vs : List V} (h : RelL c w N H xs vs) (n : Nat) : RelL c w N H (List.replicate n xs).flatten (List.replicate n vs).flatten := by
  induction n with
  | zero => exact .nil
  | succ n ih => simp only [List.replicate_succ, List.flatten_cons]; exact h.append ih
/-- a * b -/
def dMul : F2
  | .int i, e, S, Q => opt (asI e) fun j => mulOk i j ∧ Q (.int (i * j)) S
  | .tup xs, e, S, Q => opt (asI e) fun j => (xs ≠ [] ∧ 2 ≤ j ∧ j ≤ 1000 ∧ xs.length ≤ 1000) ∧ Q (.tup (repD xs j)) S
  | d, e, S, Q => opt (lv S d) fun xs => opt (asI e) fun j => (-1000000 < j ∧ j < 1000000 ∧ xs.length * j.toNat ≤ big) ∧ Q (.lst (repD xs j)) S
def rMulA (K : PySem.W.Frag) : R2 := fun x y H Q => rI mulOk (fun i j => .int (i * j)) x y H Q ∨ rRepL x y H Q ∨ rRepT K x y H Q
theorem op_mulB {X : Cx} (K : PySem.W.Frag) (hK : X.K = K := by rfl) : OpR X (binaryOp .Mult) (rMulA K) := OpR.or op_mulA (OpR.or op_repL (hK ▸ op_repT))
theorem flatten_rep_neg {xs : List V} {k : Int} (h : k < 0) : (List.replicate k.toNat xs).flatten = [] := by rw [Int.toNat_of_nonpos (by omega)]; rfl
theorem os_mul {c : Cg} : OpS c dMul (rMulA c.K) := by
  intro w S H d e x y Q' Q f r1 r2 h k
  have L : (opt (lv S d) fun xs => opt (asI e) fun j => (-1000000 < j ∧ j < 1000000 ∧ xs.length * j.toNat ≤ big) ∧ Q' (.lst (repD xs j)) S) → rMulA c.K x y H Q := fun h => by
    obtain ⟨xs, e1, h⟩ := opt_some h
    obtain ⟨j, e2, ⟨z0, z1, z2⟩, q⟩ := opt_some h
    obtain ⟨a, vs, rfl, ha, la⟩ := lv_rel f e1 r1
    obtain ⟨rfl, rfl⟩ := asI_rel e2 r2
    exact .inr (.inl ⟨a, j, vs, rfl, rfl, ha, by omega, by omega, by rw [← la.len]; exact big_le z2, fun p H2 hp g h2 => finL f k (la.rep _) hp g h2 q⟩)
  cases d with
  | int i =>
    obtain ⟨j, e1, z, q⟩ := opt_some h
    obtain ⟨rfl, rfl⟩ := asI_rel e1 r2
    cases r1
    exact .inl ⟨_, _, rfl, rfl, z, fin0 f k (.int _) q⟩
  | tup xs =>
    obtain ⟨j, e1, ⟨z1, z2, z3, z4⟩, q⟩ := opt_some h
    obtain ⟨rfl, rfl⟩ := asI_rel e1 r2
    cases r1 with
    | @tup a xs' vs ha la =>
      have hne : vs ≠ [] := fun e => z1 (by have := la.len; rw [e] at this; exact List.length_eq_zero_iff.mp this)
      exact .inr (.inr ⟨_, j, vs, rfl, rfl, ha, hne, z2, z3, by rw [← la.len]; exact z4, fun p hp => finT f k (la.rep _) (same_new hp _) (SqT.of upd_same) q⟩)
  | _ => exact L h
def dFdiv : F2 := dI2 (fun _ j => 0 < j ∧ j < 1073741824) fun i j => .int (i / j)
theorem os_fdiv {c : Cg} : OpS c dFdiv (rI CDiv fun i j => .int (i / j)) := os_I2 (fun _ _ h => h) fun _ _ _ _ _ => .int _
def dMod : F2 := dI2 (fun _ j => 0 < j) fun i j => .int (i % j)
theorem os_mod {c : Cg} : OpS c dMod (rI (fun _ j => 0 < j) fun i j => .int (i % j)) := os_I2 (fun _ _ h => h) fun _ _ _ _ _ => .int _
def dPow : F2 := dI2 (fun i j => 0 ≤ j ∧ j ≤ 1000000 ∧ i.natAbs < 2 ^ 64) fun i j => .int (i ^ j.toNat)
theorem os_pow {c : Cg} : OpS c dPow (rI CPow fun i j => .int (i ^ j.toNat)) := os_I2 (fun _ _ h => h) fun _ _ _ _ _ => .int _
/-! ### comparisons -/
def dLt : F2 := dI20 fun i j => .bl (decide (i < j))
theorem os_lt {c : Cg} : OpS c dLt (rI0 fun i j => .bl (decide (i < j))) := os_I20 fun _ _ _ _ _ => .bl _
def dLe : F2 := dI20 fun i j => .bl (decide (i ≤ j))
theorem os_le {c : Cg} : OpS c dLe (rI0 fun i j => .bl (decide (i ≤ j))) := os_I20 fun _ _ _ _ _ => .bl _
def dGt : F2 := dI20 fun i j => .bl (decide (j < i))
theorem os_gt {c : Cg} : OpS c dGt (rI0 fun i j => .bl (decide (j < i))) := os_I20 fun _ _ _ _ _ => .bl _
def dGe : F2 := dI20 fun i j => .bl (decide (j ≤ i))
theorem os_ge {c : Cg} : OpS c dGe (rI0 fun i j => .bl (decide (j ≤ i))) := os_I20 fun _ _ _ _ _ => .bl _
/-- flat things are held against each other at once -/
def eqF : D → D → Option Bool
  | .int i, .int j => some (decide (i = j))
  | .str a, .str b => some (decide (a = b))
  | .bl a, .bl b => some (decide (a = b))
  | .non, .non => some true
  | .int _, .non => some false
  | .non, .int _ => some false
  | .str _, .non => some false
  | .non, .str _ => some false
  | .int _, .str _ => some false
  | .str _, .int _ => some false
  | _, _ => none
def dEqB (neg : Bool) : F2 := fun d e S Q => match eqF d e with
  | some b => Q (.bl (b != neg)) S
  | none => (dat (rd S d) = true ∧ dat (rd S e) = true) ∧ Q (.bl (eqD (rd S d) (rd S e) != neg)) S
def dEq : F2 := dEqB false
def dNe : F2 := dEqB true
def rEqA (K : PySem.W.Frag) : R2 := fun x y H Q => rEq x y H Q ∨ rEqD K x y H Q
def rNeA (K : PySem.W.Frag) : R2 := fun x y H Q => rNe x y H Q ∨ rNeD K x y H Q
theorem op_eqA {X : Cx} (K : PySem.W.Frag) (hu : X.A.units + 64 < cLine) (hK : X.K = K := by rfl) : OpR X (compareOp .Eq) (rEqA K) := OpR.or op_eq (kop_eqD K hK hu)
theorem op_neA {X : Cx} (K : PySem.W.Frag) (hu : X.A.units + 64 < cLine) (hK : X.K = K := by rfl) : OpR X (compareOp .NotEq) (rNeA K) := OpR.or op_ne (kop_neD K hK hu)
theorem eqF_rel {c : Cg} {w : Wd} {N : Nat} {H : Hp} {d e : D} {x y : V} {b : Bool} (h : eqF d e = some b) (r1 : Rel c w N H d x) (r2 : Rel c w N H e y) : scal x y = true ∧ decide (x = y) = b := by
  cases d <;> cases e <;> simp [eqF] at h <;> cases r1 <;> cases r2 <;> simp_all [scal]
theorem dat_iff {d : D} (h : dat d = true) : isPd d = true ∧ SeqAt.shaped (pd d) = true := by simpa [dat] using h
theorem bxf (b : Bool) : (b != false) = b := by cases b <;> rfl
theorem bxt (b : Bool) : (b != true) = !b := by cases b <;> rfl
theorem os_eq {c : Cg} : OpS c dEq (rEqA c.K) := by
  intro w S H d e x y Q' Q f r1 r2 h k
  unfold dEq dEqB at h
  cases he : eqF d e with
  | some b =>
    rw [he] at h
    obtain ⟨h1, h2⟩ := eqF_rel he r1 r2
    refine .inl ⟨h1, ?_⟩
    rw [h2]
    have h : Q' (.bl (b != false)) S := h
    rw [bxf] at h
    exact fin0 f k (.bl _) h
  | none =>
    rw [he] at h
    obtain ⟨⟨h1, h2⟩, q⟩ := h
    obtain ⟨p1, s1⟩ := dat_iff h1
    obtain ⟨p2, s2⟩ := dat_iff h2
    refine .inr ⟨_, _, rd_dp f r1 p1, rd_dp f r2 p2, s1, s2, ?_⟩
    rw [bxf] at q
    exact fin0 f k (.bl _) q
theorem os_ne {c : Cg} : OpS c dNe (rNeA c.K) := by
  intro w S H d e x y Q' Q f r1 r2 h k
  unfold dNe dEqB at h
  cases he : eqF d e with
  | some b =>
    rw [he] at h
    obtain ⟨h1, h2⟩ := eqF_rel he r1 r2
    refine .inl ⟨h1, ?_⟩
    rw [h2]
    have h : Q' (.bl (b != true)) S := h
    rw [bxt] at h
    exact fin0 f k (.bl _) h
  | none =>
    rw [he] at h
    obtain ⟨⟨h1, h2⟩, q⟩ := h
    obtain ⟨p1, s1⟩ := dat_iff h1
    obtain ⟨p2, s2⟩ := dat_iff h2
    refine .inr ⟨_, _, rd_dp f r1 p1, rd_dp f r2 p2, s1, s2, ?_⟩
    rw [bxt] at q
    exact fin0 f k (.bl _) q
/-- is None -/
def isNon : D → Option Bool
  | .non => some true
  | _ => some false
def dIs (neg : Bool) : F2 := fun d e S Q => opt (isNon d) fun b => opt (isNon e) fun b' => b' = true ∧ Q (.bl (b != neg)) S
theorem isNon_rel {c : Cg} {w : Wd} {N : Nat} {H : Hp} {d : D} {x : V} {b : Bool} (h : isNon d = some b) (r : Rel c w N H d x) : decide (x = .non) = b := by
  cases r <;> simp_all [isNon]
theorem os_is {c : Cg} : OpS c (dIs false) (fun x y H Q => y = .non ∧ Q (.bl (decide (x = .non))) H) := by
  intro w S H d e x y Q' Q f r1 r2 h k
  obtain ⟨b, e1, h⟩ := opt_some h
  obtain ⟨b', e2, rfl, q⟩ := opt_some h
  have h1 := isNon_rel e1 r1
  have h2 := isNon_rel e2 r2
  rw [bxf] at q
  refine ⟨by simpa using h2, ?_⟩
  rw [h1]
  exact fin0 f k (.bl _) q
theorem os_isnt {c : Cg} : OpS c (dIs true) (fun x y H Q => y = .non ∧ Q (.bl (!decide (x = .non))) H) := by
  intro w S H d e x y Q' Q f r1 r2 h k
  obtain ⟨b, e1, h⟩ := opt_some h
  obtain ⟨b', e2, rfl, q⟩ := opt_some h
  have h1 := isNon_rel e1 r1
  have h2 := isNon_rel e2 r2
  rw [bxt] at q
  refine ⟨by simpa using h2, ?_⟩
  rw [h1]
  exact fin0 f k (.bl _) q
/-- x in a list or tuple of flat things -/
def flt : D → Bool
  | .non => true
  | .bl _ => true
  | .int _ => true
  | .str _ => true
  | _ => false
def eqv1 : D → D → Bool
  | .non, .non => true
  | .bl a, .bl b => a == b
  | .bl a, .int b => (if a then 1 else 0) == b
  | .int a, .bl b => a == (if b then 1 else 0)
  | .int a, .int b => a == b
  | .str a, .str b => a == b
  | _, _ => false
def dIn (neg : Bool) : F2 := fun d e S Q => opt (sv S e) fun xs => (flt d = true ∧ xs.all flt = true) ∧ Q (.bl ((xs.any fun y => eqv1 y d) != neg)) S
theorem flt_rel {c : Cg} {w : Wd} {N : Nat} {H : Hp} {d : D} {x : V} (h : flt d = true) (r : Rel c w N H d x) : flatV x = true := by
  cases r <;> simp_all [flt, flatV]
theorem eqv1_rel {c : Cg} {w : Wd} {N : Nat} {H : Hp} {d e : D} {x y : V} (h : flt d = true) (h' : flt e = true) (r : Rel c w N H d x) (r' : Rel c w N H e y) : eqV x y = eqv1 d e := by
  cases r <;> cases r' <;> simp_all [flt, eqv1, eqV]
theorem any_rel {c : Cg} {w : Wd} {N : Nat} {H : Hp} {d : D} {x : V} (h : flt d = true) (r : Rel c w N H d x) : ∀ {ds : List D} {vs : List V}, ds.all flt = true → RelL c w N H ds vs → vs.all flatV = true ∧ inV x vs = ds.any fun y => eqv1 y d
  | _, _, _, .nil => ⟨rfl, rfl⟩
  | e :: ds, y :: vs, ha, .cons r1 rs => by
    have ha' : flt e = true ∧ ds.all flt = true := by simpa using ha
    obtain ⟨h1, h2⟩ := any_rel h r ha'.2 rs
    refine ⟨by simp [flt_rel ha'.1 r1, List.all_eq_true.mp h1]; exact fun z hz => List.all_eq_true.mp h1 z hz, ?_⟩
    unfold inV at h2 ⊢
    simp only [List.any_cons, eqv1_rel ha'.1 h r1 r, h2]
theorem os_in {c : Cg} {neg : Bool} : OpS c (dIn neg) (rIn c.K neg) := by
  intro w S H d e x y Q' Q f r1 r2 h k
  obtain ⟨xs, e1, ⟨h1, h2⟩, q⟩ := opt_some h
  obtain ⟨a, vs, rfl, ha, la⟩ := sv_rel f e1 r2
  obtain ⟨k1, k2⟩ := any_rel h1 r1 h2 la
  refine ⟨a, vs, rfl, ha, flt_rel h1 r1, k1, ?_⟩
  rw [k2]
  cases neg with
  | false => rw [bxf] at q; exact fin0 f k (.bl _) q
  | true => rw [bxt] at q; exact fin0 f k (.bl _) q
/-! ### subscripts -/
def dIx : F2 := fun d e S Q => opt (sv S d) fun xs => opt (asI e) fun i => opt (atI xs i) fun y => Q y S
theorem atI_rel {c : Cg} {w : Wd} {N : Nat} {H : Hp} {xs : List D} {vs : List V} {i : Int} {y : D} (h : atI xs i = some y) (r : RelL c w N H xs vs) : ∃ v, atI vs i = some v ∧ Rel c w N H y v := by
  unfold atI at h ⊢
  rw [← r.len]
  cases e : ixN xs.length i with
  | none => rw [e] at h; cases h
  | some j =>
    rw [e] at h
    exact r.get h
theorem os_ix {c : Cg} : OpS c dIx (fun x y H Q => rIxL c.K x y H Q ∨ rIxT c.K x y H Q) := by
  intro w S H d e x y Q' Q f r1 r2 h k
  obtain ⟨xs, e1, h⟩ := opt_some h
  obtain ⟨i, e2, h⟩ := opt_some h
  obtain ⟨z, e3, q⟩ := opt_some h
  obtain ⟨a, vs, rfl, ha, la⟩ := sv_rel f e1 r1
  obtain ⟨rfl, rfl⟩ := asI_rel e2 r2
  obtain ⟨v, h1, h2⟩ := atI_rel e3 la
  have fin := fin0 f k h2 q
  rcases ha with ha | ha
  · exact .inl ⟨a, vs, i, v, rfl, rfl, ha, h1, fin⟩
  · exact .inr ⟨a, vs, i, v, rfl, rfl, ha, h1, fin⟩
def cutD (xs : List D) (lo hi : Option Int) : List D := (xs.drop (HT.sIx xs.length 0 lo)).take (HT.sIx xs.length xs.length hi - HT.sIx xs.length 0 lo)
theorem cut_rel {c : Cg} {w : Wd} {N : Nat} {H : Hp} {xs : List D} {vs : List V} (r : RelL c w N H xs vs) (lo hi : Option Int) : RelL c w N H (cutD xs lo hi) (cutV vs lo hi) := by
  unfold cutD cutV
  rw [r.len]
  exact (r.drop _).take _
def dSl (d : D) (lo hi : Option Int) (S : Sto) (Q : QD) : Prop := match d with
  | .tup xs => Q (.tup (cutD xs lo hi)) S
  | d => opt (lv S d) fun xs => Q (.lst (cutD xs lo hi)) S
def rSlA (K : PySem.W.Frag) : V → Option Int → Option Int → Hp → VK → Prop := fun x lo hi H Q => rSlTA K x lo hi H Q ∨ rSlLA K x lo hi H Q
theorem sl_A {X : Cx} (K : PySem.W.Frag) (hK : X.K = K := by rfl) : SlR X (rSlA K) := SlR.or (ksl_tupA K hK) (ksl_list K hK)
theorem os_sl {c : Cg} {w : Wd} {S : Sto} {H : Hp} {d : D} {x : V} {lo hi : Option Int} {Q' : QD} {Q : VK} (f : Wf c w S H) (r : Rel c w S.length H d x) (h : dSl d lo hi S Q')
    (k : ∀ w' S' H' a b, Stp w S.length H w' S'.length H' → Wf c w' S' H' → Rel c w' S'.length H' a b → Q' a S' → Q b H') : rSlA c.K x lo hi H Q := by
  have L : (opt (lv S d) fun xs => Q' (.lst (cutD xs lo hi)) S) → rSlA c.K x lo hi H Q := fun h => by
    obtain ⟨xs, e1, q⟩ := opt_some h
    obtain ⟨a, vs, rfl, ha, la⟩ := lv_rel f e1 r
    exact .inr ⟨a, vs, rfl, SqL.of ha, fun p H2 hp g h2 => finL f k (cut_rel la lo hi) hp g h2 q⟩
  cases d with
  | tup xs =>
    cases r with
    | tup ha la => exact .inl ⟨_, _, rfl, ha, fun p H2 g h2 => finT f k (cut_rel la lo hi) g h2 h⟩
  | _ => exact L h
end A

set_option Elab.async false
set_option linter.all false
set_option maxRecDepth 100000
set_option maxHeartbeats 4000000
namespace A
open PySem PySem.Spec PyProof.Rows L2
theorem PE.imp {X : Cx} {e : Expr} {t t' : TE} (h : PE X e t) (k : ∀ σ H Q, t' σ H Q → t σ H Q) : PE X e t' := ⟨fun pins s σ H Q I q => h.run pins s σ H Q I (k σ H Q q)⟩
theorem PT.imp {X : Cx} {e : Expr} {t t' : TT} (h : PT X e t) (k : ∀ σ H Q, t' σ H Q → t σ H Q) : PT X e t' := ⟨fun pins s σ H Q I q => h.run pins s σ H Q I (k σ H Q q)⟩
theorem PW.imp {X : Cx} {e : Expr} {t t' : TT} (h : PW X e t) (k : ∀ σ H Q, t' σ H Q → t σ H Q) : PW X e t' := ⟨fun wh pins s σ H Q I q => h.run wh pins s σ H Q I (k σ H Q q)⟩
theorem PA.imp {X : Cx} {es : List Expr} {t t' : TA} (h : PA X es t) (k : ∀ σ H Q, t' σ H Q → t σ H Q) : PA X es t' := ⟨fun pos pins s σ H Q I q => h.run pos pins s σ H Q I (k σ H Q q)⟩
theorem PK.imp {X : Cx} {es : List Keyword} {t t' : TA} (h : PK X es t) (k : ∀ σ H Q, t' σ H Q → t σ H Q) : PK X es t' := ⟨fun pos pins s σ H Q I q => h.run pos pins s σ H Q I (k σ H Q q)⟩
theorem PO.imp {X : Cx} {e : Option Expr} {t t' : TO} (h : PO X e t) (k : ∀ σ H Q, t' σ H Q → t σ H Q) : PO X e t' := ⟨fun pins s σ H Q I q => h.run pins s σ H Q I (k σ H Q q)⟩
theorem PS.imp {X : Cx} {e : Stmt} {t t' : TS} (h : PS X e t) (k : ∀ D σ H, t' D σ H → t D σ H) : PS X e t' := ⟨fun pins s σ H D I q => h.run pins s σ H D I (k D σ H q)⟩
theorem PSs.imp {X : Cx} {e : List Stmt} {t t' : TS} (h : PSs X e t) (k : ∀ D σ H, t' D σ H → t D σ H) : PSs X e t' := ⟨fun pins s σ H D I q => h.run pins s σ H D I (k D σ H q)⟩
abbrev relB : Wd → Nat → Hp → Bool → Bool → Prop := fun _ _ _ a b => a = b
abbrev relI : Wd → Nat → Hp → Option Int → Option Int → Prop := fun _ _ _ a b => a = b
/-- what stands around a piece: the written part, a held error, where errors go -/
structure Cn where
  c : Cg
  g : Gx
  W : WX
abbrev upE (n : Cn) (t : AM D) : TE := up n.c n.g n.W (Rel n.c) t
abbrev upT (n : Cn) (t : AM Bool) : TT := up n.c n.g n.W relB t
abbrev upA (n : Cn) (t : AM (List D)) : TA := up n.c n.g n.W (RelL n.c) t
abbrev upO (n : Cn) (t : AM (Option Int)) : TO := up n.c n.g n.W relI t
abbrev JE (X : Cx) (n : Cn) (e : Expr) (t : AM D) : Prop := PE X e (upE n t)
abbrev JT (X : Cx) (n : Cn) (e : Expr) (t : AM Bool) : Prop := PT X e (upT n t)
abbrev JW (X : Cx) (n : Cn) (e : Expr) (t : AM Bool) : Prop := PW X e (upT n t)
abbrev JA (X : Cx) (n : Cn) (es : List Expr) (t : AM (List D)) : Prop := PA X es (upA n t)
abbrev JK (X : Cx) (n : Cn) (es : List Keyword) (t : AM (List D)) : Prop := PK X es (upA n t)
abbrev JO (X : Cx) (n : Cn) (e : Option Expr) (t : AM (Option Int)) : Prop := PO X e (upO n t)
/-- the end of a reading: a value that needs no more -/
theorem upW.fin {α β : Type} {c : Cg} {W : WX} {r : Wd → Nat → Hp → α → β → Prop} {a : α} {b : β} {w : Wd} {ρ : Ev} {S : Sto} {σ : L2.St} {H : Hp} {Q : β → Hp → Prop}
    (h : upW c W r (fun _ S Q _ => Q a S) w ρ S σ H Q) (f : Wf c w S H) (k : r w S.length H a b) : Q b H := by
  obtain ⟨Q', E', ht, hq, _⟩ := h
  exact hq w S H a b Stp.refl f k ht
/-- the end: an operation on values -/
theorem upW.op {α β : Type} {c : Cg} {W : WX} {r : Wd → Nat → Hp → α → β → Prop} {f : Sto → (α → Sto → Prop) → Prop} {w : Wd} {ρ : Ev} {S : Sto} {σ : L2.St} {H : Hp} {Q : β → Hp → Prop} {P : Prop}
    (h : upW c W r (fun _ S Q _ => f S Q) w ρ S σ H Q) (k : ∀ Q', f S Q' → (∀ w' S' H' a b, Stp w S.length H w' S'.length H' → Wf c w' S' H' → r w' S'.length H' a b → Q' a S' → Q b H') → P) : P := by
  obtain ⟨Q', E', ht, hq, _⟩ := h
  exact k Q' ht hq
section
variable {X : Cx} {n : Cn} {a b e o : Expr} {es : List Expr} {ta tb tc : AM D} {tA tB' : AM Bool} {t : AM (List D)} {pos p : Pos}
/-! names, constants -/
def slot : Ev → Nat → Option D
  | [], _ => none
  | o :: _, 0 => o
  | _ :: r, i + 1 => slot r i
theorem slot_get : ∀ {ρ : Ev} {i : Nat} {d : D}, slot ρ i = some d → ρ[i]? = some (some d)
  | [], _, _, h => by simp [slot] at h
  | o :: _, 0, d, h => by simp [slot] at h; simp [h]
  | _ :: r, i + 1, d, h => by simp [slot] at h; simpa using slot_get h
def aVar (i : Nat) : AM D := fun ρ S Q _ => opt (slot ρ i) fun d => Q d S
def aC (d : D) : AM D := fun _ S Q _ => Q d S
theorem je_of_var {i : Nat} (h : PE X e (tVar i)) : JE X n e (aVar i) := PE.imp h fun σ H Q ⟨w, ρ, S, st, Q', E', ht, hq, _⟩ => by
  obtain ⟨d, e1, q⟩ := opt_some ht
  obtain ⟨v, e2, r⟩ := st.ev.2 i d (slot_get e1)
  exact ⟨v, e2, hq w S H d v Stp.refl st.wf r q⟩
theorem jv (i : Nat) {x : Str} {pos : Pos} (hN : X.N[i]? = some x := by rfl) (hv : Vis X.env.scope x := by first | exact Or.inl rfl | exact Or.inr (Or.inl rfl) | exact Or.inr (Or.inr rfl)) (hd : (x == ("__debug__" : Str)) = false := by decide)
    (hcd : (x == ("__classdict__" : Str)) = false := by decide) : JE X n (.Name x pos) (aVar i) := je_of_var (pv i hN hv hd hcd)
theorem je_of_c {v : V} {d : D} (h : PE X e (tC v)) (r : ∀ w N H, Rel n.c w N H d v) : JE X n e (aC d) := PE.imp h fun σ H Q ⟨w, ρ, S, st, h⟩ => h.fin st.wf (r _ _ _)
theorem j_int {i j pos} : JE X n (.Constant (.int i) j pos) (aC (.int i)) := je_of_c pe_int fun _ _ _ => .int i
theorem j_bl {b j pos} : JE X n (.Constant (.bool b) j pos) (aC (.bl b)) := je_of_c pe_bl fun _ _ _ => .bl b
theorem j_non {j pos} : JE X n (.Constant .none j pos) (aC .non) := je_of_c pe_non fun _ _ _ => .non
theorem j_str {x j pos} : JE X n (.Constant (.str x) j pos) (aC (.str x)) := je_of_c pe_str fun _ _ _ => .str x
/-! operations -/
def aOp (f : F2) (ta tb : AM D) : AM D := aBind ta fun x => aBind tb fun y => fun _ S Q _ => f x y S Q
theorem up_op {f : F2} {r : R2} (hs : OpS n.c f r) {σ : L2.St} {H : Hp} {Q : VK} (h : upE n (aOp f ta tb) σ H Q) : tOp r (upE n ta) (upE n tb) σ H Q := by
  obtain ⟨w, ρ, S, st, h⟩ := h
  refine (upW.bind st h).mono ?_
  rintro x H1 ⟨w1, S1, d, st1, _, r1, h1⟩
  refine (upW.bind st1 h1).mono ?_
  rintro y H2 ⟨w2, S2, e, st2, s2, r2, h2⟩
  exact h2.op fun Q' hf hq => hs w2 S2 H2 d e x y Q' Q st2.wf (r1.stp s2) r2 hf hq
theorem j_op {op : Operator} {f : F2} {r : R2} (ho : OpR X (binaryOp op) r) (hs : OpS n.c f r) (ha : JE X n a ta) (hb : JE X n b tb) : JE X n (.BinOp a op b pos) (aOp f ta tb) := PE.imp (pe_op ho ha hb) fun _ _ _ h => up_op hs h
theorem j_cmp {op : CmpOp} {f : F2} {r : R2} (ho : OpR X (compareOp op) r) (hs : OpS n.c f r) (ha : JE X n a ta) (hb : JE X n b tb) (hm : behindInMarks op b = false) : JE X n (.Compare a [op] [b] pos) (aOp f ta tb) := PE.imp (pe_cmpR ho ha hb hm) fun _ _ _ h => up_op hs h
theorem j_ix {f : F2} {r : R2} (ho : IxR X r) (hs : OpS n.c f r) (ha : JE X n a ta) (hb : JE X n b tb) (hp : PlainIx b) : JE X n (.Subscript a b pos) (aOp f ta tb) := PE.imp (pe_ix ho ha hb hp) fun _ _ _ h => up_op hs h
/-- a value as a truth -/
def aTest (t : AM D) : AM Bool := aBind t fun x => fun _ S Q _ => opt (asB x) fun b => Q b S
theorem up_test {tt : TE} {σ : L2.St} {H : Hp} {Q : Bool → Hp → Prop} (h : upT n (aTest ta) σ H Q) (k : ∀ Q, upE n ta σ H Q → tt σ H Q) : tTest tt σ H Q := by
  obtain ⟨w, ρ, S, st, h⟩ := h
  refine k _ ((upW.bind st h).mono ?_)
  rintro x H1 ⟨w1, S1, d, st1, _, r1, h1⟩
  refine h1.op fun Q' hf hq => ?_
  obtain ⟨b, e1, q⟩ := opt_some hf
  obtain ⟨rfl, rfl⟩ := asB_rel e1 r1
  exact ⟨b, rfl, hq _ _ _ b b Stp.refl st1.wf rfl q⟩
theorem jt_cmp {op : CmpOp} {f : F2} {r : R2} (ho : OpR X (compareOp op) r) (hs : OpS n.c f r) (ha : JE X n a ta) (hb : JE X n b tb) (hm : behindInMarks op b = false) : JT X n (.Compare a [op] [b] pos) (aTest (aOp f ta tb)) :=
  PT.imp (pt_cmpR ho ha hb hm) fun _ _ _ h => up_test h fun _ q => up_op hs q
theorem jt_val (h : JE X n e ta) (he : ∀ whole, isTrue e X.env whole = (do let v ← whole; standAt e.pos; holding [v] (truthy v)) := by intro _; rfl) : JT X n e (aTest ta) :=
  PT.imp (pt_val h he) fun σ H Q h => up_test (tt := upE n ta) h fun _ q => q
/-- a <= b < c -/
def aChain (f g : F2) (ta tb tc : AM D) : AM D := aBind ta fun x => aBind tb fun y => aBind (fun _ S Q _ => f x y S Q) fun z => fun ρ S Q E => opt (asB z) fun k => if k = true then aBind tc (fun u => fun _ S Q _ => g y u S Q) ρ S Q E else Q (.bl false) S
theorem up_chain {f g : F2} {r r' : R2} (hs : OpS n.c f r) (hs' : OpS n.c g r') {σ : L2.St} {H : Hp} {Q : VK} (h : upE n (aChain f g ta tb tc) σ H Q) : tChain r r' (upE n ta) (upE n tb) (upE n tc) σ H Q := by
  obtain ⟨w, ρ, S, st, h⟩ := h
  refine (upW.bind st h).mono ?_
  rintro x H1 ⟨w1, S1, d, st1, _, r1, h1⟩
  refine (upW.bind st1 h1).mono ?_
  rintro y H2 ⟨w2, S2, e, st2, s2, r2, h2⟩
  obtain ⟨Q', E', ht, hq, he⟩ := h2
  refine hs w2 S2 H2 d e x y _ _ st2.wf (r1.stp s2) r2 ht fun w3 S3 H3 z v s3 f3 r3 q => ?_
  obtain ⟨k, e1, q⟩ := opt_some q
  obtain ⟨rfl, rfl⟩ := asB_rel e1 r3
  refine ⟨k, rfl, ?_⟩
  have st3 := st2.step s3 f3
  cases k with
  | false => exact hq _ _ _ _ _ s3 f3 (.bl false) q
  | true =>
    have h3 : upW n.c n.W (Rel n.c) (aBind tc (fun u => fun _ S Q _ => g e u S Q)) w3 ρ S3 σ H3 Q := ⟨Q', E', q, fun w' S' H' a b s f r z => hq w' S' H' a b (s3.trans s) f r z, fun w' S' H' x cls d s f r z => he w' S' H' x cls d (s3.trans s) f r z⟩
    refine (upW.bind st3 h3).mono ?_
    rintro u H4 ⟨w4, S4, d4, st4, s4, r4, h4⟩
    exact h4.op fun Q' hf hq => hs' w4 S4 H4 e d4 y u Q' Q st4.wf ((r2.stp s3).stp s4) r4 hf hq
theorem j_chain {op op' : CmpOp} {f g : F2} {r r' : R2} {c : Expr} (ho : OpR X (compareOp op) r) (ho' : OpR X (compareOp op') r') (hs : OpS n.c f r) (hs' : OpS n.c g r') (ha : JE X n a ta) (hb : JE X n b tb) (hc : JE X n c tc)
    (hm : lastMarks [op, op'] [b, c] = false := by with_unfolding_all rfl) : JE X n (.Compare a [op, op'] [b, c] pos) (aChain f g ta tb tc) := PE.imp (pe_chain ho ho' ha hb hc hm) fun _ _ _ h => up_chain hs hs' h
theorem jt_chain {op op' : CmpOp} {f g : F2} {r r' : R2} {c : Expr} (ho : OpR X (compareOp op) r) (ho' : OpR X (compareOp op') r') (hs : OpS n.c f r) (hs' : OpS n.c g r') (ha : JE X n a ta) (hb : JE X n b tb) (hc : JE X n c tc)
    (hm : lastMarks [op, op'] [b, c] = false := by with_unfolding_all rfl) : JT X n (.Compare a [op, op'] [b, c] pos) (aTest (aChain f g ta tb tc)) := PT.imp (pt_chain ho ho' ha hb hc hm) fun _ _ _ h => up_test h fun _ q => up_chain hs hs' q
/-! and, or, not, if .. else -/
def aAnd (t u : AM Bool) : AM Bool := aBind t fun c ρ S Q E => if c = true then u ρ S Q E else Q false S
def aOr (t u : AM Bool) : AM Bool := aBind t fun c ρ S Q E => if c = true then Q true S else u ρ S Q E
def aNot (t : AM Bool) : AM Bool := aBind t fun c _ S Q _ => Q (!c) S
theorem upW.into {α β : Type} {c : Cg} {g : Gx} {W : WX} {r : Wd → Nat → Hp → α → β → Prop} {t : AM α} {w : Wd} {ρ : Ev} {S : Sto} {σ : L2.St} {H : Hp} {Q : β → Hp → Prop} (st : Sta c g w ρ S σ H) (h : upW c W r t w ρ S σ H Q) : up c g W r t σ H Q := ⟨w, ρ, S, st, h⟩
theorem jw_and1 (ha : JT X n a tA) : JW X n (.BoolOp .And [a] pos) tA := pw_and1 ha
theorem jw_or1 (ha : JT X n a tA) : JW X n (.BoolOp .Or [a] pos) tA := pw_or1 ha
theorem jw_and {rest : List Expr} (ha : JT X n a tA) (hb : JW X n (.BoolOp .And (b :: rest) pos) tB') : JW X n (.BoolOp .And (a :: b :: rest) pos) (aAnd tA tB') := PW.imp (pw_and ha hb) fun σ H Q ⟨w, ρ, S, st, h⟩ => by
  refine (upW.bind st h).mono ?_
  rintro c H1 ⟨w1, S1, d, st1, _, rfl, h1⟩
  cases d with
  | true => exact upW.into st1 h1
  | false => exact h1.fin st1.wf rfl
theorem jw_or {rest : List Expr} (ha : JT X n a tA) (hb : JW X n (.BoolOp .Or (b :: rest) pos) tB') : JW X n (.BoolOp .Or (a :: b :: rest) pos) (aOr tA tB') := PW.imp (pw_or ha hb) fun σ H Q ⟨w, ρ, S, st, h⟩ => by
  refine (upW.bind st h).mono ?_
  rintro c H1 ⟨w1, S1, d, st1, _, rfl, h1⟩
  cases d with
  | false => exact upW.into st1 h1
  | true => exact h1.fin st1.wf rfl
theorem JW.jt (h : JW X n e tA) : JT X n e tA := PW.pt h
theorem jt_not (ha : JT X n a tA) : JT X n (.UnaryOp .Not a pos) (aNot tA) := PT.imp (pt_not ha) fun σ H Q ⟨w, ρ, S, st, h⟩ => by
  refine (upW.bind st h).mono ?_
  rintro c H1 ⟨w1, S1, d, st1, _, rfl, h1⟩
  exact h1.fin st1.wf rfl
def aAndV (ta tb : AM D) : AM D := aBind ta fun x ρ S Q E => opt (asB x) fun c => if c = true then tb ρ S Q E else Q (.bl false) S
def aOrV (ta tb : AM D) : AM D := aBind ta fun x ρ S Q E => opt (asB x) fun c => if c = true then Q (.bl true) S else tb ρ S Q E
def aNotV (ta : AM D) : AM D := aBind ta fun x _ S Q _ => opt (asB x) fun c => Q (.bl (!c)) S
theorem j_one {op} (h : JE X n a ta) : JE X n (.BoolOp op [a] pos) ta := pe_one h
theorem j_and {rest : List Expr} (ha : JE X n a ta) (hb : JE X n (.BoolOp .And (b :: rest) pos) tb) : JE X n (.BoolOp .And (a :: b :: rest) pos) (aAndV ta tb) := PE.imp (pe_and ha hb) fun σ H Q ⟨w, ρ, S, st, h⟩ => by
  refine (upW.bind st h).mono ?_
  rintro x H1 ⟨w1, S1, d, st1, _, r1, Q', E', ht, hq, he⟩
  obtain ⟨c, e1, q⟩ := opt_some ht
  obtain ⟨rfl, rfl⟩ := asB_rel e1 r1
  refine ⟨c, rfl, ?_⟩
  cases c with
  | true => exact ⟨w1, ρ, S1, st1, Q', E', q, hq, he⟩
  | false => exact hq _ _ _ _ _ Stp.refl st1.wf (.bl false) q
theorem j_or {rest : List Expr} (ha : JE X n a ta) (hb : JE X n (.BoolOp .Or (b :: rest) pos) tb) : JE X n (.BoolOp .Or (a :: b :: rest) pos) (aOrV ta tb) := PE.imp (pe_or ha hb) fun σ H Q ⟨w, ρ, S, st, h⟩ => by
  refine (upW.bind st h).mono ?_
  rintro x H1 ⟨w1, S1, d, st1, _, r1, Q', E', ht, hq, he⟩
  obtain ⟨c, e1, q⟩ := opt_some ht
  obtain ⟨rfl, rfl⟩ := asB_rel e1 r1
  refine ⟨c, rfl, ?_⟩
  cases c with
  | false => exact ⟨w1, ρ, S1, st1, Q', E', q, hq, he⟩
  | true => exact hq _ _ _ _ _ Stp.refl st1.wf (.bl true) q
theorem j_not (ha : JE X n a ta) : JE X n (.UnaryOp .Not a pos) (aNotV ta) := PE.imp (pe_not ha) fun σ H Q ⟨w, ρ, S, st, h⟩ => by
  refine (upW.bind st h).mono ?_
  rintro x H1 ⟨w1, S1, d, st1, _, r1, h1⟩
  refine h1.op fun Q' hf hq => ?_
  obtain ⟨b, e1, q⟩ := opt_some hf
  obtain ⟨rfl, rfl⟩ := asB_rel e1 r1
  exact ⟨b, rfl, hq _ _ _ _ _ Stp.refl st1.wf (.bl _) q⟩
def aIf (t : AM Bool) (ta tb : AM D) : AM D := aBind t fun c ρ S Q E => if c = true then ta ρ S Q E else tb ρ S Q E
theorem j_if {c : Expr} (hc : JT X n c tA) (ha : JE X n a ta) (hb : JE X n b tb) : JE X n (.IfExp c a b pos) (aIf tA ta tb) := PE.imp (pe_ifExp hc ha hb) fun σ H Q ⟨w, ρ, S, st, h⟩ => by
  refine (upW.bind st h).mono ?_
  rintro c H1 ⟨w1, S1, d, st1, _, rfl, h1⟩
  cases d with
  | true => exact upW.into st1 h1
  | false => exact upW.into st1 h1
def aNeg (ta : AM D) : AM D := aBind ta fun x _ S Q _ => opt (asI x) fun i => Q (.int (-i)) S
theorem j_neg (ha : JE X n a ta) : JE X n (.UnaryOp .USub a pos) (aNeg ta) := PE.imp (pe_un un_neg ha) fun σ H Q ⟨w, ρ, S, st, h⟩ => by
  refine (upW.bind st h).mono ?_
  rintro x H1 ⟨w1, S1, d, st1, _, r1, h1⟩
  refine h1.op fun Q' hf hq => ?_
  obtain ⟨b, e1, q⟩ := opt_some hf
  obtain ⟨rfl, rfl⟩ := asI_rel e1 r1
  exact ⟨b, rfl, hq _ _ _ _ _ Stp.refl st1.wf (.int _) q⟩
/-! arguments and displays -/
def aNil : AM (List D) := fun _ S Q _ => Q [] S
def aCons (ta : AM D) (tr : AM (List D)) : AM (List D) := aBind ta fun x => aBind tr fun xs => fun _ S Q _ => Q (x :: xs) S
theorem ja_nil : JA X n [] aNil := PA.imp pa_nil fun σ H Q ⟨w, ρ, S, st, h⟩ => h.fin st.wf .nil
theorem up_cons {σ : L2.St} {H : Hp} {Q : List V → Hp → Prop} (h : upA n (aCons ta t) σ H Q) : tCons (upE n ta) (upA n t) σ H Q := by
  obtain ⟨w, ρ, S, st, h⟩ := h
  refine (upW.bind st h).mono ?_
  rintro x H1 ⟨w1, S1, d, st1, _, r1, h1⟩
  refine (upW.bind st1 h1).mono ?_
  rintro xs H2 ⟨w2, S2, ds, st2, s2, r2, h2⟩
  exact h2.fin st2.wf (.cons (r1.stp s2) r2)
theorem ja_cons (ha : JE X n e ta) (hr : JA X n es t) (hs : starEach (e :: es) X.env = (false, eval e X.env) :: starEach es X.env := by rfl) : JA X n (e :: es) (aCons ta t) := PA.imp (pa_cons ha hr hs) fun _ _ _ h => up_cons h
theorem jk_nil : JK X n [] aNil := PK.imp pk_nil fun σ H Q ⟨w, ρ, S, st, h⟩ => h.fin st.wf .nil
theorem jk_cons {kws : List Keyword} {nm : Option Str} {kpos : Pos} (ha : JE X n e ta) (hr : JK X n kws t) : JK X n (⟨nm, e, kpos⟩ :: kws) (aCons ta t) := PK.imp (pk_cons ha hr) fun _ _ _ h => up_cons h
def aStar (ta : AM D) (tr : AM (List D)) : AM (List D) := aBind ta fun x => fun ρ S Q E => opt (sv S x) fun ys => aBind tr (fun xs => fun _ S Q _ => Q (ys ++ xs) S) ρ S Q E
def aTup (t : AM (List D)) : AM D := aBind t fun xs => fun _ S Q _ => xs.length ≤ big ∧ Q (.tup xs) S
def aLst (t : AM (List D)) : AM D := aBind t fun xs => fun _ S Q _ => xs.length ≤ big ∧ Q (.lst xs) S
def aLstM (t : AM (List D)) : AM D := aBind t fun xs => fun _ S Q _ => xs.length ≤ big ∧ Q (.ref S.length) (S ++ [.lst xs])
theorem j_tup {x1} (h : JA X n es t) : JE X n (.Tuple es x1 pos) (aTup t) := PE.imp (pe_tupA h) fun σ H Q ⟨w, ρ, S, st, h⟩ => by
  refine (upW.bind st h).mono ?_
  rintro vs H1 ⟨w1, S1, xs, st1, _, r1, h1⟩
  refine h1.op fun Q' hf hq => ?_
  exact ⟨by rw [← r1.len]; exact big_le hf.1, fun p H2 hp g h2 => finT st1.wf hq r1 g (SqT.of h2) hf.2⟩
theorem j_lst (h : JA X n es t) : JE X n (.List es pos) (aLst t) := PE.imp (pe_lstA h) fun σ H Q ⟨w, ρ, S, st, h⟩ => by
  refine (upW.bind st h).mono ?_
  rintro vs H1 ⟨w1, S1, xs, st1, _, r1, h1⟩
  refine h1.op fun Q' hf hq => ?_
  exact ⟨by rw [← r1.len]; exact big_le hf.1, fun p H2 hp g h2 => finL st1.wf hq r1 hp g h2 hf.2⟩
/-- a new list of the row -/
theorem finM {c : Cg} {w : Wd} {S : Sto} {H H2 : Hp} {Q' : QD} {Q : VK} (f : Wf c w S H) (k : ∀ w' S' H' a b, Stp w S.length H w' S'.length H' → Wf c w' S' H' → Rel c w' S'.length H' a b → Q' a S' → Q b H') {xs : List D} {vs : List V} {p : Addr}
    (hr : RelL c w S.length H xs vs) (hp : H p = none) (g : Same H H2) (h2 : H2 p = some (.lst vs)) (q : Q' (.ref S.length) (S ++ [.lst xs])) : Q (.ref p) H2 := by
  have len : (S ++ [O.lst xs]).length = S.length + 1 := by simp
  have s := Stp.push (w := w) (N := S.length) hp g
  have r : Rel c (w.push S.length p) (S.length + 1) H2 (.ref S.length) (.ref ((w.push S.length p).i S.length)) := .ref (Nat.lt_succ_self _)
  have e : (w.push S.length p).i S.length = p := if_pos rfl
  rw [e] at r
  refine k (w.push S.length p) (S ++ [.lst xs]) H2 _ _ (by rw [len]; exact s) (f.push (o := .lst xs) hp g ⟨vs, h2, hr.stp s⟩) (by rw [len]; exact r) q
theorem j_lstM (h : JA X n es t) : JE X n (.List es pos) (aLstM t) := PE.imp (pe_lstA h) fun σ H Q ⟨w, ρ, S, st, h⟩ => by
  refine (upW.bind st h).mono ?_
  rintro vs H1 ⟨w1, S1, xs, st1, _, r1, h1⟩
  refine h1.op fun Q' hf hq => ?_
  exact ⟨by rw [← r1.len]; exact big_le hf.1, fun p H2 hp g h2 => finM st1.wf hq r1 hp g h2 hf.2⟩
end
end A

set_option Elab.async false
set_option linter.all false
set_option maxRecDepth 100000
set_option maxHeartbeats 4000000
namespace A
open PySem PySem.Spec PyProof.Rows L2
/-! ### calls of built-ins -/
abbrev FN := List D → Sto → QD → Prop
def CallS (c : Cg) (f : FN) (r : List V → Hp → VK → Prop) : Prop := ∀ (w : Wd) (S : Sto) (H : Hp) (ds : List D) (xs : List V) (Q' : QD) (Q : VK), Wf c w S H → RelL c w S.length H ds xs → f ds S Q' →
  (∀ w' S' H' a b, Stp w S.length H w' S'.length H' → Wf c w' S' H' → Rel c w' S'.length H' a b → Q' a S' → Q b H') → r xs H Q
def aCB (f : FN) (t : AM (List D)) : AM D := aBind t fun xs => fun _ S Q _ => f xs S Q
section
variable {X : Cx} {n : Cn} {e o : Expr} {es : List Expr} {t : AM (List D)} {ta tb : AM D} {pos p apos : Pos} {x : Str} {id : String} {f : FN} {r : List V → Hp → VK → Prop}
theorem up_cb (hs : CallS n.c f r) {σ : L2.St} {H : Hp} {Q : VK} (h : upE n (aCB f t) σ H Q) : tCB r (upA n t) σ H Q := by
  obtain ⟨w, ρ, S, st, h⟩ := h
  refine (upW.bind st h).mono ?_
  rintro xs H1 ⟨w1, S1, d, st1, _, r1, h1⟩
  exact h1.op fun Q' hf hq => hs w1 S1 H1 d xs Q' Q st1.wf r1 hf hq
theorem j_callB (hc : CallR X (.builtin id) r) (hs : CallS n.c f r) (hg : Gl X x) (hm : X.mg x = none) (hv : bootBuiltins x = some (.builtin id)) (ha : JA X n (e :: es) t) (hn : x ≠ "__name__" := by decide) (hdb : (x == ("__debug__" : Str)) = false := by decide)
    (he : starEach (e :: es) X.env = (false, eval e X.env) :: starEach es X.env := by rfl) (hpl : (backTo pos (starEach es X.env)).any (·.1) = false := by rfl) : JE X n (.Call (.Name x p) (e :: es) [] pos) (aCB f t) :=
  PE.imp (pe_callB hc hg hm hv ha hn hdb he hpl) fun _ _ _ h => up_cb hs h
theorem j_callTy (hc : CallR X (.type id) r) (hs : CallS n.c f r) (hg : Gl X x) (hm : X.mg x = none) (hv : bootBuiltins x = some (.type id)) (ha : JA X n (e :: es) t) (hn : x ≠ "__name__" := by decide) (hdb : (x == ("__debug__" : Str)) = false := by decide)
    (he : starEach (e :: es) X.env = (false, eval e X.env) :: starEach es X.env := by rfl) (hpl : (backTo pos (starEach es X.env)).any (·.1) = false := by rfl) : JE X n (.Call (.Name x p) (e :: es) [] pos) (aCB f t) :=
  PE.imp (pe_callTy hc hg hm hv ha hn hdb he hpl) fun _ _ _ h => up_cb hs h
end
section
variable {c : Cg}
def one1 : List D → Option D
  | [d] => some d
  | _ => none
def two2 : List D → Option (D × D)
  | [d, e] => some (d, e)
  | _ => none
theorem one_rel {w : Wd} {N : Nat} {H : Hp} {ds : List D} {xs : List V} {d : D} (h : one1 ds = some d) (r : RelL c w N H ds xs) : ∃ x, xs = [x] ∧ Rel c w N H d x := by
  match ds, h, r with
  | [d'], h, .cons r .nil =>
    simp [one1] at h
    subst h
    exact ⟨_, rfl, r⟩
theorem two_rel {w : Wd} {N : Nat} {H : Hp} {ds : List D} {xs : List V} {d : D × D} (h : two2 ds = some d) (r : RelL c w N H ds xs) : ∃ x y, xs = [x, y] ∧ Rel c w N H d.1 x ∧ Rel c w N H d.2 y := by
  match ds, h, r with
  | [d1, d2], h, .cons r (.cons r' .nil) =>
    simp [two2] at h
    subst h
    exact ⟨_, _, rfl, r, r'⟩
def fLen : FN := fun ds S Q => opt (one1 ds) fun d => opt (sv S d) fun xs => Q (.int xs.length) S
theorem cs_len : CallS c fLen (fun xs H Q => ∃ p ys, xs = [.ref p] ∧ (SqL c.K H p ys ∨ SqT c.K H p ys) ∧ Q (.int ys.length) H) := by
  intro w S H ds xs Q' Q f r h k
  obtain ⟨d, e1, h⟩ := opt_some h
  obtain ⟨ys, e2, q⟩ := opt_some h
  obtain ⟨x, rfl, r1⟩ := one_rel e1 r
  obtain ⟨a, vs, rfl, ha, la⟩ := sv_rel f e2 r1
  refine ⟨a, vs, rfl, ha, ?_⟩
  rw [← la.len]
  exact fin0 f k (.int _) q
def asInt : D → Option Int
  | .int i => some i
  | .bl b => some (if b then 1 else 0)
  | _ => none
def fInt : FN := fun ds S Q => opt (one1 ds) fun d => opt (asInt d) fun i => Q (.int i) S
theorem cs_int : CallS c fInt (fun xs H Q => (∃ i, xs = [.int i] ∧ Q (.int i) H) ∨ ∃ k, xs = [.bl k] ∧ Q (.int (if k then 1 else 0)) H) := by
  intro w S H ds xs Q' Q f r h k
  obtain ⟨d, e1, h⟩ := opt_some h
  obtain ⟨i, e2, q⟩ := opt_some h
  obtain ⟨x, rfl, r1⟩ := one_rel e1 r
  cases d <;> simp [asInt] at e2
  · subst e2; cases r1; exact .inr ⟨_, rfl, fin0 f k (.int _) q⟩
  · subst e2; cases r1; exact .inl ⟨_, rfl, fin0 f k (.int _) q⟩
def fAbs : FN := fun ds S Q => opt (one1 ds) fun d => opt (asI d) fun i => Q (.int (if i < 0 then -i else i)) S
theorem cs_abs : CallS c fAbs (fun xs H Q => ∃ i, xs = [.int i] ∧ Q (.int (if i < 0 then -i else i)) H) := by
  intro w S H ds xs Q' Q f r h k
  obtain ⟨d, e1, h⟩ := opt_some h
  obtain ⟨i, e2, q⟩ := opt_some h
  obtain ⟨x, rfl, r1⟩ := one_rel e1 r
  obtain ⟨rfl, rfl⟩ := asI_rel e2 r1
  exact ⟨_, rfl, fin0 f k (.int _) q⟩
def fI2 (g : Int → Int → Int) : FN := fun ds S Q => opt (two2 ds) fun d => opt (asI d.1) fun i => opt (asI d.2) fun j => Q (.int (g i j)) S
theorem cs_I2 {g : Int → Int → Int} : CallS c (fI2 g) (fun xs H Q => ∃ i j, xs = [.int i, .int j] ∧ Q (.int (g i j)) H) := by
  intro w S H ds xs Q' Q f r h k
  obtain ⟨d, e1, h⟩ := opt_some h
  obtain ⟨i, e2, h⟩ := opt_some h
  obtain ⟨j, e3, q⟩ := opt_some h
  obtain ⟨x, y, rfl, r1, r2⟩ := two_rel e1 r
  obtain ⟨_, rfl⟩ := asI_rel e2 r1
  obtain ⟨_, rfl⟩ := asI_rel e3 r2
  exact ⟨_, _, rfl, fin0 f k (.int _) q⟩
def fMax2 : FN := fI2 fun i j => if j > i then j else i
def fMin2 : FN := fI2 fun i j => if j < i then j else i
theorem cs_max2 : CallS c fMax2 (fun xs H Q => ∃ i j, xs = [.int i, .int j] ∧ Q (.int (if j > i then j else i)) H) := cs_I2
theorem cs_min2 : CallS c fMin2 (fun xs H Q => ∃ i j, xs = [.int i, .int j] ∧ Q (.int (if j < i then j else i)) H) := cs_I2
/-- all the ints of a list -/
def intsOf (S : Sto) (d : D) : Option (List Int) := (lv S d).bind intsD
theorem intsOf_rel {w : Wd} {S : Sto} {H : Hp} {d : D} {x : V} {ns : List Int} (f : Wf c w S H) (h : intsOf S d = some ns) (r : Rel c w S.length H d x) : ∃ a, x = .ref a ∧ SqL c.K H a (ns.map V.int) := by
  unfold intsOf at h
  obtain ⟨xs, e1, e2⟩ := Option.bind_eq_some_iff.mp h
  obtain ⟨a, vs, rfl, ha, la⟩ := lv_rel f e1 r
  rw [ints_rel e2 la] at ha
  exact ⟨a, rfl, SqL.of ha⟩
def minL : List Int → Int
  | [] => 0
  | [a] => a
  | a :: b :: r => let m := minL (b :: r); if m < a then m else a
theorem minL_mem : ∀ {ns : List Int}, ns ≠ [] → minL ns ∈ ns
  | [a], _ => by simp [minL]
  | a :: b :: r, _ => by
    have h := minL_mem (ns := b :: r) (by simp)
    simp only [minL]
    split
    · exact List.mem_cons_of_mem _ h
    · exact List.mem_cons_self ..
theorem minL_le : ∀ {ns : List Int} {y : Int}, y ∈ ns → minL ns ≤ y
  | [a], y, h => by simp at h; subst h; exact Int.le_refl _
  | a :: b :: r, y, h => by
    simp only [minL]
    rcases List.mem_cons.mp h with rfl | h
    · split <;> omega
    · have := minL_le (ns := b :: r) h
      split <;> omega
def fMin1 : FN := fun ds S Q => opt (one1 ds) fun d => opt (intsOf S d) fun ns => ns ≠ [] ∧ Q (.int (minL ns)) S
theorem cs_min1 : CallS c fMin1 (rMin c.K) := by
  intro w S H ds xs Q' Q f r h k
  obtain ⟨d, e1, h⟩ := opt_some h
  obtain ⟨ns, e2, hn, q⟩ := opt_some h
  obtain ⟨x, rfl, r1⟩ := one_rel e1 r
  obtain ⟨a, rfl, ha⟩ := intsOf_rel f e2 r1
  refine ⟨a, ns, rfl, ha, List.length_pos_iff.mpr hn, fun m hm hle => ?_⟩
  have e : m = minL ns := Int.le_antisymm (hle _ (minL_mem hn)) (minL_le hm)
  rw [e]
  exact fin0 f k (.int _) q
def fSum : FN := fun ds S Q => opt (one1 ds) fun d => opt (intsOf S d) fun ns => Q (.int ns.sum) S
theorem cs_sum : CallS c fSum (rSum c.K) := by
  intro w S H ds xs Q' Q f r h k
  obtain ⟨d, e1, h⟩ := opt_some h
  obtain ⟨ns, e2, q⟩ := opt_some h
  obtain ⟨x, rfl, r1⟩ := one_rel e1 r
  obtain ⟨a, rfl, ha⟩ := intsOf_rel f e2 r1
  exact ⟨a, ns, rfl, ha, fin0 f k (.int _) q⟩
def boolsOf (S : Sto) (d : D) : Option (List Bool) := (lv S d).bind boolsD
theorem boolsOf_rel {w : Wd} {S : Sto} {H : Hp} {d : D} {x : V} {ns : List Bool} (f : Wf c w S H) (h : boolsOf S d = some ns) (r : Rel c w S.length H d x) : ∃ a, x = .ref a ∧ SqL c.K H a (ns.map V.bl) := by
  unfold boolsOf at h
  obtain ⟨xs, e1, e2⟩ := Option.bind_eq_some_iff.mp h
  obtain ⟨a, vs, rfl, ha, la⟩ := lv_rel f e1 r
  rw [bools_rel e2 la] at ha
  exact ⟨a, rfl, SqL.of ha⟩
def fAny : FN := fun ds S Q => opt (one1 ds) fun d => opt (boolsOf S d) fun bs => Q (.bl (bs.any id)) S
def fAll : FN := fun ds S Q => opt (one1 ds) fun d => opt (boolsOf S d) fun bs => Q (.bl (bs.all id)) S
theorem cs_any : CallS c fAny (rAny c.K) := by
  intro w S H ds xs Q' Q f r h k
  obtain ⟨d, e1, h⟩ := opt_some h
  obtain ⟨ns, e2, q⟩ := opt_some h
  obtain ⟨x, rfl, r1⟩ := one_rel e1 r
  obtain ⟨a, rfl, ha⟩ := boolsOf_rel f e2 r1
  exact ⟨a, ns, rfl, ha, fin0 f k (.bl _) q⟩
theorem cs_all : CallS c fAll (rAll c.K) := by
  intro w S H ds xs Q' Q f r h k
  obtain ⟨d, e1, h⟩ := opt_some h
  obtain ⟨ns, e2, q⟩ := opt_some h
  obtain ⟨x, rfl, r1⟩ := one_rel e1 r
  obtain ⟨a, rfl, ha⟩ := boolsOf_rel f e2 r1
  exact ⟨a, ns, rfl, ha, fin0 f k (.bl _) q⟩
def fList : FN := fun ds S Q => opt (one1 ds) fun d => opt (sv S d) fun xs => Q (.lst xs) S
def fListM : FN := fun ds S Q => opt (one1 ds) fun d => opt (sv S d) fun xs => Q (.ref S.length) (S ++ [.lst xs])
def fTuple : FN := fun ds S Q => opt (one1 ds) fun d => opt (sv S d) fun xs => Q (.tup xs) S
theorem cs_list : CallS c fList (fun xs H Q => ∃ p ys, xs = [.ref p] ∧ (SqL c.K H p ys ∨ SqT c.K H p ys) ∧ NewA H (.lst ys) Q) := by
  intro w S H ds xs Q' Q f r h k
  obtain ⟨d, e1, h⟩ := opt_some h
  obtain ⟨ys, e2, q⟩ := opt_some h
  obtain ⟨x, rfl, r1⟩ := one_rel e1 r
  obtain ⟨a, vs, rfl, ha, la⟩ := sv_rel f e2 r1
  exact ⟨a, vs, rfl, ha, fun p H2 hp g h2 => finL f k la hp g h2 q⟩
theorem cs_listM : CallS c fListM (fun xs H Q => ∃ p ys, xs = [.ref p] ∧ (SqL c.K H p ys ∨ SqT c.K H p ys) ∧ NewA H (.lst ys) Q) := by
  intro w S H ds xs Q' Q f r h k
  obtain ⟨d, e1, h⟩ := opt_some h
  obtain ⟨ys, e2, q⟩ := opt_some h
  obtain ⟨x, rfl, r1⟩ := one_rel e1 r
  obtain ⟨a, vs, rfl, ha, la⟩ := sv_rel f e2 r1
  exact ⟨a, vs, rfl, ha, fun p H2 hp g h2 => finM f k la hp g h2 q⟩
theorem cs_tuple : CallS c fTuple (fun xs H Q => ∃ p ys, xs = [.ref p] ∧ (SqL c.K H p ys ∨ SqT c.K H p ys) ∧ ∀ t H2, Same H H2 → SqT c.K H2 t ys → Q (.ref t) H2) := by
  intro w S H ds xs Q' Q f r h k
  obtain ⟨d, e1, h⟩ := opt_some h
  obtain ⟨ys, e2, q⟩ := opt_some h
  obtain ⟨x, rfl, r1⟩ := one_rel e1 r
  obtain ⟨a, vs, rfl, ha, la⟩ := sv_rel f e2 r1
  exact ⟨a, vs, rfl, ha, fun p H2 g h2 => finT f k la g h2 q⟩
def asBool : D → Option Bool
  | .int i => some (i != 0)
  | .bl b => some b
  | _ => none
def fBool : FN := fun ds S Q => opt (one1 ds) fun d => opt (asBool d) fun i => Q (.bl i) S
theorem cs_bool : CallS c fBool (fun xs H Q => (∃ i, xs = [.int i] ∧ Q (.bl (i != 0)) H) ∨ ∃ k, xs = [.bl k] ∧ Q (.bl k) H) := by
  intro w S H ds xs Q' Q f r h k
  obtain ⟨d, e1, h⟩ := opt_some h
  obtain ⟨i, e2, q⟩ := opt_some h
  obtain ⟨x, rfl, r1⟩ := one_rel e1 r
  cases d <;> simp [asBool] at e2
  · subst e2; cases r1; exact .inr ⟨_, rfl, fin0 f k (.bl _) q⟩
  · subst e2; cases r1; exact .inl ⟨_, rfl, fin0 f k (.bl _) q⟩
/-! isinstance of a built-in type -/
/-- the name of a thing's built-in type -/
def tyN (S : Sto) : D → Option String
  | .non => some "NoneType"
  | .bl _ => some "bool"
  | .int _ => some "int"
  | .str _ => some "str"
  | .tup _ => some "tuple"
  | .lst _ => some "list"
  | .scr _ => some "list"
  | .ref n => match S[n]? with
    | some (.lst _) => some "list"
    | some (.dct _) => some "dict"
    | _ => none
  | _ => none
def asTy : D → Option String
  | .ty n => some n
  | _ => none
def tyKnown : List String := ["int", "bool", "str", "tuple", "list", "dict"]
def subTy (a b : String) : Bool := a == b || (a == "bool" && b == "int")
theorem subTy_kit {a b : String} (ha : a ∈ "NoneType" :: tyKnown) (hb : b ∈ tyKnown) : kitB a b = some (subTy a b) := by
  simp only [tyKnown, List.mem_cons, List.not_mem_nil, or_false] at ha hb
  rcases ha with rfl | rfl | rfl | rfl | rfl | rfl | rfl <;> rcases hb with rfl | rfl | rfl | rfl | rfl | rfl <;> decide +kernel
theorem tyN_rel {w : Wd} {S : Sto} {H : Hp} {d : D} {x : V} {a : String} (f : Wf c w S H) (h : tyN S d = some a) (r : Rel c w S.length H d x) : TyX c.K H x (.type a) ∧ a ∈ "NoneType" :: tyKnown := by
  cases r with
  | non => simp [tyN] at h; subst h; exact ⟨.base .non, by decide⟩
  | bl b => simp [tyN] at h; subst h; exact ⟨.base (.bl b), by decide⟩
  | int b => simp [tyN] at h; subst h; exact ⟨.base (.int b), by decide⟩
  | str b => simp [tyN] at h; subst h; exact ⟨.base (.str b), by decide⟩
  | tup h1 _ => simp [tyN] at h; subst h; exact ⟨tyT h1, by decide⟩
  | lst h1 _ _ => simp [tyN] at h; subst h; exact ⟨.base (.lst h1), by decide⟩
  | scr h1 => simp [tyN] at h; subst h; exact ⟨tyL (scr_sq h1), by decide⟩
  | @ref n hn =>
    simp only [tyN] at h
    cases e : S[n]? with
    | none => rw [e] at h; cases h
    | some o =>
      rw [e] at h
      cases o with
      | lst ys =>
        cases h
        obtain ⟨vs, h1, h2⟩ := f.obj n _ e
        exact ⟨.base (.lst h1), by decide⟩
      | ins C fs => cases h
      | dct kvs =>
        cases h
        obtain ⟨vs, h1, h2⟩ := f.obj n _ e
        exact ⟨.base (.dK h1), by decide⟩
  | _ => simp [tyN] at h
def fIsi : FN := fun ds S Q => opt (two2 ds) fun d => opt (tyN S d.1) fun a => opt (asTy d.2) fun b => b ∈ tyKnown ∧ Q (.bl (subTy a b)) S
theorem cs_isi : CallS c fIsi (rIsi c.K) := by
  intro w S H ds xs Q' Q f r h k
  obtain ⟨d, e1, h⟩ := opt_some h
  obtain ⟨a, e2, h⟩ := opt_some h
  obtain ⟨b, e3, hb, q⟩ := opt_some h
  obtain ⟨x, y, rfl, r1, r2⟩ := two_rel e1 r
  obtain ⟨d1, d2⟩ := d
  obtain ⟨ty, ha⟩ := tyN_rel f e2 r1
  cases d2 <;> simp [asTy] at e3
  subst e3
  cases r2
  exact isi_at ty (subTy_kit ha hb) (fin0 f k (.bl _) q)
/-- isinstance(x, (T1, T2)) -/
def tysOf : D → Option (List String)
  | .tup xs => xs.mapM asTy
  | _ => none
def fIsiT : FN := fun ds S Q => opt (two2 ds) fun d => opt (tyN S d.1) fun a => opt (tysOf d.2) fun bs => (∀ b ∈ bs, b ∈ tyKnown) ∧ Q (.bl (bs.any fun b => subTy a b)) S
end
end A

set_option Elab.async false
set_option linter.all false
set_option maxRecDepth 100000
set_option maxHeartbeats 4000000
namespace A
open PySem PySem.Spec PyProof.Rows L2
/-! ### what defs promise -/
abbrev ASp := List D → Sto → QD → XQ → Prop
def upSp (c : Cg) (sp : ASp) : Sp := fun vs H Q E => ∃ (w : Wd) (S : Sto) (ds : List D) (Q' : QD) (E' : XQ), Wf c w S H ∧ RelL c w S.length H ds vs ∧ sp ds S Q' E' ∧
  (∀ w' S' H' d v, Stp w S.length H w' S'.length H' → Wf c w' S' H' → Rel c w' S'.length H' d v → Q' d S' → Q v H') ∧
  ∀ w' S' H' x cls d, Stp w S.length H w' S'.length H' → Wf c w' S' H' → RelX c w' S'.length H' x cls d → E' x S' → E cls d H'
theorem upSp.of {c : Cg} {W : WX} {sp : ASp} {ds : List D} {vs : List V} {w : Wd} {ρ : Ev} {S : Sto} {σ : L2.St} {H : Hp} {Q : VK} (h : upW c W (Rel c) (fun _ S Q E => sp ds S Q E) w ρ S σ H Q) (f : Wf c w S H) (r : RelL c w S.length H ds vs) : upSp c sp vs H Q (WE W σ) := by
  obtain ⟨Q', E', ht, hq, he⟩ := h
  exact ⟨w, S, ds, Q', E', f, r, ht, hq, he⟩
def aCall (sp : ASp) (t : AM (List D)) : AM D := aBind t fun ds => fun _ S Q E => sp ds S Q E
/-- the attributes of an instance of C -/
def insOf (S : Sto) (d : D) (C : Str) : Option (List (Str × D)) := match d with
  | .obj C' ns vs => if C' = C then some (ns.zip vs) else none
  | .ref n => match S[n]? with
    | some (.ins C' fs) => if C' = C then some fs else none
    | _ => none
  | _ => none
theorem zip_fst {ns : List Str} : ∀ {vs : List D}, ns.length = vs.length → (ns.zip vs).map (·.1) = ns ∧ (ns.zip vs).map (·.2) = vs := fun {vs} h => ⟨List.map_fst_zip (by omega), List.map_snd_zip (by omega)⟩
theorem insOf_rel {c : Cg} {w : Wd} {S : Sto} {H : Hp} {d : D} {x : V} {C : Str} {fs : List (Str × D)} (f : Wf c w S H) (h : insOf S d C = some fs) (r : Rel c w S.length H d x) :
    ∃ a dx fs', x = .ref a ∧ H a = some (.ins (c.cA C) dx fs') ∧ fs'.map (·.1) = fs.map (·.1) ∧ RelL c w S.length H (fs.map (·.2)) (fs'.map (·.2)) := by
  cases r with
  | @obj a dx C' ns ds fs' h1 h2 hn hs =>
    simp only [insOf] at h
    split at h
    · rename_i e
      cases h
      subst e
      have hl : ns.length = ds.length := by rw [hs.len, ← hn]; simp
      obtain ⟨z1, z2⟩ := zip_fst hl
      exact ⟨a, dx, fs', rfl, h1, by rw [z1]; exact hn, by rw [z2]; exact hs⟩
    · cases h
  | @ref n hn =>
    simp only [insOf] at h
    cases e : S[n]? with
    | none => rw [e] at h; cases h
    | some o =>
      rw [e] at h
      cases o with
      | ins C' fs' =>
        simp only at h
        split at h
        · rename_i e'
          cases h
          subst e'
          obtain ⟨dx, fs', h1, h2, h3⟩ := f.obj n _ e
          exact ⟨_, dx, fs', rfl, h1, h2, h3⟩
        · cases h
      | lst ys => cases h
      | dct kvs => cases h
  | _ => simp [insOf] at h
theorem lookup_rel {c : Cg} {w : Wd} {N : Nat} {H : Hp} {f : Str} : ∀ {fs : List (Str × D)} {fs' : List (Str × V)}, fs'.map (·.1) = fs.map (·.1) → RelL c w N H (fs.map (·.2)) (fs'.map (·.2)) →
    (fs.lookup f = none → fs'.lookup f = none) ∧ ∀ d, fs.lookup f = some d → ∃ v, fs'.lookup f = some v ∧ Rel c w N H d v
  | [], [], _, _ => ⟨fun _ => rfl, fun d h => by simp at h⟩
  | [], _ :: _, h, _ => by simp at h
  | _ :: _, [], h, _ => by simp at h
  | (k, d) :: fs, (k', v) :: fs', h, r => by
    simp only [List.map_cons, List.cons.injEq] at h
    obtain ⟨rfl, h⟩ := h
    simp only [List.map_cons] at r
    cases r with
    | cons r rs =>
      obtain ⟨i1, i2⟩ := lookup_rel (f := f) h rs
      simp only [List.lookup_cons]
      cases hb : f == k' with
      | true => exact ⟨fun z => by simp at z, fun d' z => by simp at z; subst z; exact ⟨v, rfl, r⟩⟩
      | false => exact ⟨i1, i2⟩
def FldOk (c : Cg) (C f : Str) : Prop := Cls c.K (c.cA C) ∧ NoAttr c.K (c.cA C) f
def aFld (C f : Str) (ta : AM D) : AM D := aBind ta fun d => fun _ S Q _ => opt (insOf S d C) fun fs => opt (fs.lookup f) fun v => Q v S
def aMe (C m : Str) (sp : ASp) (ta : AM D) (t : AM (List D)) : AM D := aBind ta fun d => fun ρ S Q E => opt (insOf S d C) fun fs => fs.lookup m = none ∧ aBind t (fun ds => fun _ S Q E => sp (d :: ds) S Q E) ρ S Q E
def aPr (C : Str) (sp : ASp) (ta : AM D) : AM D := aBind ta fun d => fun _ S Q _ => opt (insOf S d C) fun _ => sp [d] S Q fun _ _ => False
def aMk (C : Str) (sp : ASp) (t : AM (List D)) : AM D := aBind t fun ds => fun _ S Q E => sp (.ref S.length :: ds) (S ++ [.ins C []]) (fun v S' => v = .non ∧ Q (.ref S.length) S') E
section
variable {X : Cx} {n : Cn} {k r : Nat} {sp : ASp} {x m C f : Str} {p pos apos : Pos} {e o : Expr} {es : List Expr} {ta : AM D} {t : AM (List D)}
theorem up_call {σ : L2.St} {H : Hp} {Q : VK} (h : upE n (aCall sp t) σ H Q) : tCallS (upSp n.c sp) (WE n.W) (upA n t) σ H Q := by
  obtain ⟨w, ρ, S, st, h⟩ := h
  refine (upW.bind st h).mono ?_
  rintro vs H1 ⟨w1, S1, ds, st1, _, r1, h1⟩
  exact upSp.of h1 st1.wf r1
theorem j_fc (c : Fnc X.prog X.w X.K X.mg X.base k x (upSp n.c sp)) (hr : Room r X.A) (hk : k ≤ r) (hg : Gl X x) (hx : ∀ σ, PassesAt (L2N.CX X.prog X.w) X σ (WE n.W σ)) (ha : JA X n (e :: es) t)
    (hdb : (x == ("__debug__" : Str)) = false := by decide) (he : starEach (e :: es) X.env = (false, eval e X.env) :: starEach es X.env := by rfl) (hpl : (backTo pos (starEach es X.env)).any (·.1) = false := by rfl) :
    JE X n (.Call (.Name x p) (e :: es) [] pos) (aCall sp t) := PE.imp (pe_fc c hr hk hg hx ha hdb he hpl) fun _ _ _ h => up_call h
theorem j_fc0 (c : Fnc X.prog X.w X.K X.mg X.base k x (upSp n.c sp)) (hr : Room r X.A) (hk : k ≤ r) (hg : Gl X x) (hx : ∀ σ, PassesAt (L2N.CX X.prog X.w) X σ (WE n.W σ))
    (hdb : (x == ("__debug__" : Str)) = false := by decide) : JE X n (.Call (.Name x p) [] [] pos) (aCall sp aNil) := PE.imp (pe_fc0 c hr hk hg hx hdb) fun σ H Q ⟨w, ρ, S, st, h⟩ => upSp.of (ds := []) h st.wf .nil
theorem j_fld (T : FldOk n.c C f) (he : JE X n e ta) (hb : attributeBase e f X.env (eval e X.env) = eval e X.env) (hK : X.K = n.c.K := by rfl) : JE X n (.Attribute e f pos) (aFld C f ta) := PE.imp (pe_fld he hb) fun σ H Q ⟨w, ρ, S, st, h⟩ => by
  refine (upW.bind st h).mono ?_
  rintro v H1 ⟨w1, S1, d, st1, _, r1, h1⟩
  refine h1.op fun Q' hf hq => ?_
  obtain ⟨fs, e1, hf⟩ := opt_some hf
  obtain ⟨y, e2, q⟩ := opt_some hf
  obtain ⟨a, dx, fs', rfl, ha, hn, hs⟩ := insOf_rel st1.wf e1 r1
  obtain ⟨u, hu, ru⟩ := (lookup_rel hn hs).2 y e2
  rw [hK]
  exact ⟨a, _, dx, fs', u, rfl, ha, T.1, T.2, hu, fin0 st1.wf hq ru q⟩
theorem up_me {σ : L2.St} {H : Hp} {Q : VK} (h : upE n (aMe C m sp ta t) σ H Q) : tMtd (n.c.cA C) m (upSp n.c sp) (WE n.W) (upE n ta) (upA n t) σ H Q := by
  obtain ⟨w, ρ, S, st, h⟩ := h
  refine (upW.bind st h).mono ?_
  rintro v H1 ⟨w1, S1, d, st1, _, r1, Q', E', ht, hq, he⟩
  obtain ⟨fs, e1, hl, ht⟩ := opt_some ht
  obtain ⟨a, dx, fs', rfl, ha, hn, hs⟩ := insOf_rel st1.wf e1 r1
  refine ⟨a, dx, fs', rfl, ha, (lookup_rel hn hs).1 hl, ?_⟩
  have h1 : upW n.c n.W (Rel n.c) (aBind t (fun ds => fun _ S Q E => sp (d :: ds) S Q E)) w1 ρ S1 σ H1 Q := ⟨Q', E', ht, hq, he⟩
  refine (upW.bind st1 h1).mono ?_
  rintro vs H2 ⟨w2, S2, ds, st2, s2, r2, h2⟩
  exact upSp.of h2 st2.wf (.cons (r1.stp s2) r2)
theorem j_me {pl : Sem Bool} (c : Mtd X.prog X.w X.K X.mg X.base k (n.c.cA C) m (upSp n.c sp)) (hr : Room r X.A) (hk : k ≤ r) (hx : ∀ σ, PassesAt (L2N.CX X.prog X.w) X σ (WE n.W σ)) (he : JE X n o ta) (ha : JA X n (e :: es) t)
    (hst : starEach (e :: es) X.env = (false, eval e X.env) :: starEach es X.env := by rfl) (hpl : (backTo pos (starEach es X.env)).any (·.1) = false := by rfl)
    (ht : eval (.Call (.Attribute o m apos) (e :: es) [] pos) X.env = (do
      let ov ← eval o X.env
      standAt apos.atName
      let (f, first) ← holding [ov] (getMethod ov m pl)
      callWith pos f first (backTo pos (starEach (e :: es) X.env)) (backToKw pos (keywordEach [] X.env))) := by rfl) :
    JE X n (.Call (.Attribute o m apos) (e :: es) [] pos) (aMe C m sp ta t) := PE.imp (pe_me c hr hk hx he ha hst hpl ht) fun _ _ _ h => up_me h
theorem j_me0 {pl : Sem Bool} (c : Mtd X.prog X.w X.K X.mg X.base k (n.c.cA C) m (upSp n.c sp)) (hr : Room r X.A) (hk : k ≤ r) (hx : ∀ σ, PassesAt (L2N.CX X.prog X.w) X σ (WE n.W σ)) (he : JE X n o ta)
    (ht : eval (.Call (.Attribute o m apos) [] [] pos) X.env = (do
      let ov ← eval o X.env
      standAt apos.atName
      let (f, first) ← holding [ov] (getMethod ov m pl)
      callWith pos f first (backTo pos (starEach [] X.env)) (backToKw pos (keywordEach [] X.env))) := by rfl) :
    JE X n (.Call (.Attribute o m apos) [] [] pos) (aMe C m sp ta aNil) := PE.imp (pe_me0 c hr hk hx he ht) fun σ H Q h => by
  have := up_me h
  refine this.mono ?_
  rintro v H1 ⟨a, dx, fs, e1, e2, e3, w, ρ, S, st, h⟩
  exact ⟨a, dx, fs, e1, e2, e3, h.fin st.wf .nil⟩
theorem j_pr (c : Prp X.prog X.w X.K X.mg X.base k (n.c.cA C) m (upSp n.c sp)) (hr : Room r X.A) (hk : k + 1 ≤ r) (he : JE X n o ta) (hab : attributeBase o m X.env (eval o X.env) = eval o X.env := by rfl) : JE X n (.Attribute o m pos) (aPr C sp ta) :=
  PE.imp (pe_pr c hr hk he hab) fun σ H Q ⟨w, ρ, S, st, h⟩ => by
  refine (upW.bind st h).mono ?_
  rintro v H1 ⟨w1, S1, d, st1, _, r1, Q', E', ht, hq, he⟩
  obtain ⟨fs, e1, ht⟩ := opt_some ht
  obtain ⟨a, dx, fs', rfl, ha, hn, hs⟩ := insOf_rel st1.wf e1 r1
  exact ⟨⟨a, dx, fs', rfl, ha⟩, w1, S1, [d], Q', _, st1.wf, .cons r1 .nil, ht, hq, fun _ _ _ _ _ _ _ _ _ z => z⟩
theorem up_mk {σ : L2.St} {H : Hp} {Q : VK} (h : upE n (aMk C sp t) σ H Q) : tMkr (n.c.cA C) (upSp n.c sp) (WE n.W) (upA n t) σ H Q := by
  obtain ⟨w, ρ, S, st, h⟩ := h
  refine (upW.bind st h).mono ?_
  rintro vs H1 ⟨w1, S1, ds, st1, _, r1, Q', E', ht, hq, he⟩ y dx hy hdx hne
  have g : Same H1 (upd (upd H1 dx (.own y)) y (.ins (n.c.cA C) dx [])) := fun b u q => by
    rw [upd_ne (ne_of_none q hy), upd_ne (ne_of_none q hdx)]; exact q
  have s := Stp.push (w := w1) (N := S1.length) hy g
  have len : (S1 ++ [O.ins C []]).length = S1.length + 1 := by simp
  have e : (w1.push S1.length y).i S1.length = y := if_pos rfl
  have f2 : Wf n.c (w1.push S1.length y) (S1 ++ [.ins C []]) (upd (upd H1 dx (.own y)) y (.ins (n.c.cA C) dx [])) := st1.wf.push (o := .ins C []) hy g ⟨dx, [], upd_same, rfl, .nil⟩
  have rs : Rel n.c (w1.push S1.length y) (S1 ++ [O.ins C []]).length (upd (upd H1 dx (.own y)) y (.ins (n.c.cA C) dx [])) (.ref S1.length) (.ref y) := by
    rw [len]
    have := Rel.ref (c := n.c) (w := w1.push S1.length y) (N := S1.length + 1) (H := upd (upd H1 dx (.own y)) y (.ins (n.c.cA C) dx [])) (n := S1.length) (Nat.lt_succ_self _)
    rw [e] at this
    exact this
  rw [← len] at s
  refine ⟨_, _, .ref S1.length :: ds, _, E', f2, .cons rs (r1.stp s), ht, ?_, ?_⟩
  · rintro w' S' H' d v s' f' rd ⟨rfl, q⟩
    cases rd
    exact ⟨rfl, hq w' S' H' _ _ (s.trans s') f' (rs.stp s') q⟩
  · intro w' S' H' x cls d s' f' rx q
    exact he w' S' H' x cls d (s.trans s') f' rx q
theorem j_nw (c : Mkr X.prog X.w X.K X.mg X.base k x (n.c.cA C) (upSp n.c sp)) (hr : Room r X.A) (hk : k + 1 ≤ r) (hg : Gl X x) (hx : ∀ σ, PassesAt (L2N.CX X.prog X.w) X σ (WE n.W σ)) (ha : JA X n (e :: es) t)
    (hdb : (x == ("__debug__" : Str)) = false := by decide) (he : starEach (e :: es) X.env = (false, eval e X.env) :: starEach es X.env := by rfl) (hpl : (backTo pos (starEach es X.env)).any (·.1) = false := by rfl) :
    JE X n (.Call (.Name x p) (e :: es) [] pos) (aMk C sp t) := PE.imp (pe_nw c hr hk hg hx ha hdb he hpl) fun _ _ _ h => up_mk h
end
/-! ### what is behind N may go -/
mutual
def cl (N : Nat) : D → Bool
  | .ref n => decide (n < N)
  | .tup xs => cls N xs
  | .lst xs => cls N xs
  | .obj _ _ vs => cls N vs
  | _ => true
def cls (N : Nat) : List D → Bool
  | [] => true
  | d :: r => cl N d && cls N r
end
section
variable {c : Cg} {w w0 : Wd} {N N' : Nat} {H : Hp}
mutual
theorem Rel.clsd : ∀ {d : D} {v : V}, Rel c w N H d v → A.cl N d = true
  | _, _, .non => rfl
  | _, _, .bl b => rfl
  | _, _, .int i => rfl
  | _, _, .str x => rfl
  | _, _, .ty n => rfl
  | _, _, .cl C => rfl
  | _, _, .adr v => rfl
  | _, _, .scr _ => rfl
  | _, _, .ref h => by simp [A.cl, h]
  | _, _, .tup h hs => by simp only [A.cl]; exact RelL.clsd hs
  | _, _, .lst h r hs => by simp only [A.cl]; exact RelL.clsd hs
  | _, _, .obj h r hn hs => by simp only [A.cl]; exact RelL.clsd hs
theorem RelL.clsd : ∀ {ds : List D} {vs : List V}, RelL c w N H ds vs → A.cls N ds = true
  | _, _, .nil => rfl
  | _, _, .cons h hs => by simp [A.cls, Rel.clsd h, RelL.clsd hs]
end
mutual
theorem Rel.cut (hR : ∀ a, w0.R a → w.R a) (hi : ∀ n, n < N → w.i n = w0.i n) : ∀ {d : D} {v : V}, A.cl N d = true → Rel c w N' H d v → Rel c w0 N H d v
  | _, _, _, .non => .non
  | _, _, _, .bl b => .bl b
  | _, _, _, .int i => .int i
  | _, _, _, .str x => .str x
  | _, _, _, .ty n => .ty n
  | _, _, _, .cl C => .cl C
  | _, _, _, .adr v => .adr v
  | _, _, _, .scr h => .scr (h.imp (fun x => ⟨x.1, fun z => x.2 (hR _ z)⟩) fun x => x)
  | .ref n, _, k, .ref h => by
    have hn : n < N := by simpa [A.cl] using k
    rw [hi n hn]
    exact .ref hn
  | .tup _, _, k, .tup h hs => .tup h (RelL.cut hR hi (by simpa [A.cl] using k) hs)
  | .lst _, _, k, .lst h r hs => .lst h (fun z => r (hR _ z)) (RelL.cut hR hi (by simpa [A.cl] using k) hs)
  | .obj _ _ _, _, k, .obj h r hn hs => .obj h (fun z => r (hR _ z)) hn (RelL.cut hR hi (by simpa [A.cl] using k) hs)
theorem RelL.cut (hR : ∀ a, w0.R a → w.R a) (hi : ∀ n, n < N → w.i n = w0.i n) : ∀ {ds : List D} {vs : List V}, A.cls N ds = true → RelL c w N' H ds vs → RelL c w0 N H ds vs
  | _, _, _, .nil => .nil
  | d :: ds, _, k, .cons h hs => by
    have k' : A.cl N d = true ∧ A.cls N ds = true := by simpa [A.cls] using k
    exact .cons (Rel.cut hR hi k'.1 h) (RelL.cut hR hi k'.2 hs)
end
end
def clO (N : Nat) : O → Bool
  | .lst xs => cls N xs
  | .ins _ fs => cls N (fs.map (·.2))
  | .dct kvs => cls N (kvs.map (·.2))
theorem RelO.clO {c : Cg} {w : Wd} {N : Nat} {H : Hp} {o : O} {a : Addr} (h : RelO c w N H o a) : A.clO N o = true := by
  cases o with
  | lst xs => obtain ⟨vs, _, h⟩ := h; exact h.clsd
  | ins C fs => obtain ⟨_, _, _, _, h⟩ := h; exact h.clsd
  | dct kvs => obtain ⟨_, _, _, h⟩ := h; exact h.clsd
theorem RelO.cut {c : Cg} {w w0 : Wd} {N N' : Nat} {H : Hp} (hR : ∀ a, w0.R a → w.R a) (hi : ∀ n, n < N → w.i n = w0.i n) {o : O} {a : Addr} (k : A.clO N o = true) (h : RelO c w N' H o a) : RelO c w0 N H o a := by
  cases o with
  | lst xs => obtain ⟨vs, h1, h⟩ := h; exact ⟨vs, h1, h.cut hR hi k⟩
  | ins C fs => obtain ⟨dx, fs', h1, h2, h⟩ := h; exact ⟨dx, fs', h1, h2, h.cut hR hi k⟩
  | dct kvs => obtain ⟨kvs', h1, h2, h⟩ := h; exact ⟨kvs', h1, h2, h.cut hR hi k⟩
theorem Stp.cut {w w' : Wd} {N N' : Nat} {H H' : Hp} (s : Stp w N H w' N' H') : Stp w N H w N H' := ⟨Nat.le_refl _, fun _ _ => rfl, fun n h1 h2 => absurd h2 (by omega), fun _ h => h, fun _ h => .inl h, s.fro, s.rsv, s.dom, s.tups⟩
theorem Wf.cut {c : Cg} {w w' : Wd} {S S1 T : Sto} {H H' : Hp} (f : Wf c w S H) (s : Stp w S.length H w' (S1 ++ T).length H') (f' : Wf c w' (S1 ++ T) H') (hl : S1.length = S.length) (k : ∀ o ∈ S1, A.clO S.length o = true) : Wf c w S1 H' := by
  refine ⟨fun n hn => f.res n (hl ▸ hn), (fun a h => (f.held a h).elim fun u e => s.dom a u e), fun n m hn hm => f.inj n m (hl ▸ hn) (hl ▸ hm), fun n o e => ?_⟩
  have hn : n < S1.length := (List.getElem?_eq_some_iff.mp e).1
  have z := f'.obj n o (by rw [List.getElem?_append_left hn]; exact e)
  rw [s.ids n (hl ▸ hn)] at z
  rw [hl]
  exact RelO.cut s.up s.ids (k o (List.mem_of_getElem? e)) z
/-- a thing that lies behind N, as it stays when no one can change it any more -/
def frz (S : Sto) (N : Nat) : D → Option D
  | .ref n => if n < N then some (.ref n) else match S[n]? with
    | some (.lst xs) => if cls N xs = true then some (.lst xs) else none
    | some (.ins C fs) => if cls N (fs.map (·.2)) = true then some (.obj C (fs.map (·.1)) (fs.map (·.2))) else none
    | _ => none
  | d => if cl N d = true then some d else none
theorem frz_rel {c : Cg} {w w' : Wd} {S S' : Sto} {H H' : Hp} {d r : D} {v : V} (f : Wf c w S H) (s : Stp w S.length H w' S'.length H') (f' : Wf c w' S' H') (h : frz S' S.length d = some r) (rd : Rel c w' S'.length H' d v) : Rel c w S.length H' r v := by
  have gen : (if cl S.length d = true then some d else none) = some r → Rel c w S.length H' r v := fun h => by
    split at h
    · rename_i k
      cases h
      exact rd.cut s.up s.ids k
    · cases h
  cases d with
  | ref n =>
    simp only [frz] at h
    split at h
    · rename_i hn
      cases h
      exact rd.cut s.up s.ids (by simpa [cl] using hn)
    · rename_i hn
      cases rd with
      | ref hn' =>
        have nR : ¬ w.R (w'.i n) := fun z => by
          have q := s.new n (by omega) hn'
          obtain ⟨u, e⟩ := f.held _ z
          rw [q] at e; cases e
        cases e : S'[n]? with
        | none => rw [e] at h; cases h
        | some o =>
          rw [e] at h
          cases o with
          | lst xs =>
            simp only at h
            split at h
            · rename_i k
              cases h
              obtain ⟨vs, h1, h2⟩ := f'.obj n _ e
              exact .lst h1 nR (h2.cut s.up s.ids k)
            · cases h
          | ins C fs =>
            simp only at h
            split at h
            · rename_i k
              cases h
              obtain ⟨dx, fs', h1, h2, h3⟩ := f'.obj n _ e
              exact .obj h1 nR h2 (h3.cut s.up s.ids k)
            · cases h
          | dct kvs => cases h
  | _ => exact gen h
/-- the same promise, all that the def has laid beyond what stood at its call left behind -/
def cutSp (sp : ASp) : ASp := fun ds S Q E => sp ds S (fun d S' => ∃ S1 T r, S' = S1 ++ T ∧ S1.length = S.length ∧ (∀ o ∈ S1, clO S.length o = true) ∧ frz S' S.length d = some r ∧ Q r S1)
  (fun x S' => ∃ S1 T, S' = S1 ++ T ∧ S1.length = S.length ∧ (∀ o ∈ S1, clO S.length o = true) ∧ cls S.length x.vs = true ∧ E x S1)
theorem RelX.cut {c : Cg} {w w0 : Wd} {N N' : Nat} {H : Hp} (hR : ∀ a, w0.R a → w.R a) (hi : ∀ n, n < N → w.i n = w0.i n) {x : Exc} {cl : Value} {d : Option Addr} (k : cls N x.vs = true) (h : RelX c w N' H x cl d) : RelX c w0 N H x cl d := by
  refine ⟨h.1, ?_⟩
  have h2 := h.2
  cases d with
  | none => exact h2
  | some dd =>
    obtain ⟨fs, e, r, hn, hs⟩ := h2
    exact ⟨fs, e, fun z => r (hR _ z), hn, hs.cut hR hi k⟩
theorem cutSp_up {c : Cg} {sp : ASp} (vs : List V) (H : Hp) (Q : VK) (E : XK) (h : upSp c (cutSp sp) vs H Q E) : upSp c sp vs H Q E := by
  obtain ⟨w, S, ds, Q', E', f, r, ht, hq, he⟩ := h
  refine ⟨w, S, ds, _, _, f, r, ht, ?_, ?_⟩
  · rintro w' S' H' d v s f' rd ⟨S1, T, y, rfl, hl, k, hz, q⟩
    have fc := f.cut s f' hl k
    refine hq w S1 H' y v (by rw [hl]; exact s.cut) fc ?_ q
    rw [hl]
    exact frz_rel f s f' hz rd
  · rintro w' S' H' x cl d s f' rx ⟨S1, T, rfl, hl, k, kx, q⟩
    have fc := f.cut s f' hl k
    refine he w S1 H' x cl d (by rw [hl]; exact s.cut) fc ?_ q
    rw [hl]
    exact rx.cut s.up s.ids kx
end A

set_option Elab.async false
set_option linter.all false
set_option maxRecDepth 100000
set_option maxHeartbeats 4000000
namespace A
open PySem PySem.Spec PyProof.Rows L2
/-! ### walks over what stays -/
def WalkD (c : Cg) (w : Wd) (N : Nat) (H : Hp) (J : It) (xs : List D) : Prop := ∃ (G : Hp → Prop) (Y : Nat → Hp → V → Hp → Prop), Walk J xs.length G Y ∧
  (∀ w2 N2 H2, Stp w N H w2 N2 H2 → G H2) ∧
  ∀ w2 N2 H2 i x H3, Stp w N H w2 N2 H2 → i < xs.length → Y i H2 x H3 → Same H2 H3 ∧ ∃ d, xs[i]? = some d ∧ Rel c w2 N2 H3 d x
def upI (n : Cn) (t : AM (List D)) : TI := fun σ H R => ∃ w ρ S, Sta n.c n.g w ρ S σ H ∧ ∃ (Q' : List D → Sto → Prop) (E' : XQ), t ρ S Q' E' ∧
  (∀ w' S' H' it, Stp w S.length H w' S'.length H' → Wf n.c w' S' H' → Q' it S' → ∀ J, WalkD n.c w' S'.length H' J it → R J H') ∧
    ∀ w' S' H' x cls d, Stp w S.length H w' S'.length H' → Wf n.c w' S' H' → RelX n.c w' S'.length H' x cls d → E' x S' → n.W cls d σ H'
abbrev JI (X : Cx) (n : Cn) (tg e : Expr) (t : AM (List D)) : Prop := PI X tg e (upI n t)
theorem PI.imp {X : Cx} {tg e : Expr} {t t' : TI} (h : PI X tg e t) (k : ∀ σ H Q, t' σ H Q → t σ H Q) : PI X tg e t' := ⟨fun pins s σ H Q I q => h.run pins s σ H Q I (k σ H Q q)⟩
/-- by an expression, then the walk -/
theorem upI.bind {α β : Type} {n : Cn} {r : Wd → Nat → Hp → α → β → Prop} {t : AM α} {f : α → AM (List D)} {σ : L2.St} {H : Hp} {R : It → Hp → Prop} (h : upI n (aBind t f) σ H R) :
    up n.c n.g n.W r t σ H (fun b H1 => ∃ w1 ρ S1 a, Wf n.c w1 S1 H1 ∧ r w1 S1.length H1 a b ∧ ∃ (Q' : List D → Sto → Prop) (E' : XQ), f a ρ S1 Q' E' ∧ ∀ it, Q' it S1 → ∀ J, WalkD n.c w1 S1.length H1 J it → R J H1) := by
  obtain ⟨w, ρ, S, st, Q', E', ht, hq, he⟩ := h
  refine ⟨w, ρ, S, st, fun a S1 => f a ρ S1 Q' E', E', ht, fun w1 S1 H1 a b s1 f1 r1 hf => ?_, he⟩
  exact ⟨w1, ρ, S1, a, f1, r1, Q', E', hf, fun it z J wd => hq w1 S1 H1 it s1 f1 z J wd⟩
/-- a list, a tuple, the script, that stays -/
def fv : D → Option (List D)
  | .lst xs => some xs
  | .tup xs => some xs
  | .scr ns => some (ns.map D.int)
  | _ => none
theorem relL_ints {c : Cg} {w : Wd} {N : Nat} {H : Hp} : ∀ {ns : List Int}, RelL c w N H (ns.map D.int) (ns.map V.int)
  | [] => .nil
  | n :: ns => .cons (.int n) relL_ints
theorem fv_stay {c : Cg} {w : Wd} {N : Nat} {H : Hp} {d : D} {v : V} {xs : List D} (h : fv d = some xs) (r : Rel c w N H d v) : ∃ b a vs, v = .ref a ∧ SqB c.K H b a vs ∧ RelL c w N H xs vs ∧ ∀ w2 N2 H2, Stp w N H w2 N2 H2 → SqB c.K H2 b a vs := by
  cases r with
  | @lst a ys vs h1 h2 h3 =>
    simp [fv] at h; subst h
    exact ⟨true, a, vs, rfl, SqL.of h1, h3, fun w2 N2 H2 s => SqL.of (s.fro _ _ h1 h2)⟩
  | @tup a ys vs h1 h3 =>
    simp [fv] at h; subst h
    exact ⟨false, a, vs, rfl, h1, h3, fun w2 N2 H2 s => SqT.stp0 s.to0 h1⟩
  | @scr a ns h1 =>
    simp [fv] at h; subst h
    exact ⟨true, a, _, rfl, scr_sq h1, relL_ints, fun w2 N2 H2 s => scr_sq (p := True) (h1.imp (fun z => ⟨(Rd.fro s z.1 z.2).1, trivial⟩) fun z => z)⟩
  | _ => simp [fv] at h
def aItS (te : AM D) : AM (List D) := aBind te fun d => fun _ S Q _ => opt (fv d) fun xs => Q xs S
section
variable {X : Cx} {n : Cn} {tg e : Expr} {es : List Expr} {te : AM D} {t : AM (List D)} {p pos : Pos}
theorem ji_seq (he : JE X n e te) (hK : X.K = n.c.K := by rfl) : JI X n tg e (aItS te) := PI.imp (kpi_sq n.c.K he hK) fun σ H R h => by
  refine (upI.bind h).mono ?_
  rintro v H1 ⟨w1, ρ, S1, d, f1, r1, Q', E', hf, k⟩
  obtain ⟨xs, e1, q⟩ := opt_some hf
  obtain ⟨b, a, vs, rfl, hb, hl, hs⟩ := fv_stay e1 r1
  refine ⟨b, a, vs, rfl, hb, fun J wk => k xs q J ⟨_, YAt vs, ?_, hs, ?_⟩⟩
  · rw [hl.len]; exact wk
  · rintro w2 N2 H2 i x H3 s hi ⟨rfl, hy⟩
    obtain ⟨d', h1, h2⟩ := hl.getV hy
    exact ⟨Same.refl _, d', h1, h2.stp s⟩
/-- range(a), range(a, b) -/
def rng (lo : Int) (n : Nat) : List D := (List.range n).map fun (i : Nat) => D.int (lo + i)
theorem walk_rng {c : Cg} {w : Wd} {N : Nat} {H : Hp} {lo : Int} {m : Nat} : WalkD c w N H (Itr lo m) (rng lo m) := by
  have len : (rng lo m).length = m := by simp [rng]
  refine ⟨fun _ => True, YFn (fun i => .int (lo + i)), by rw [len]; exact walk_range, fun _ _ _ _ => trivial, ?_⟩
  rintro w2 N2 H2 i x H3 _ hi ⟨rfl, rfl⟩
  rw [len] at hi
  exact ⟨Same.refl _, .int (lo + i), by simp [rng, hi], .int _⟩
def aRng1 (t : AM (List D)) : AM (List D) := aBind t fun ds => fun _ S Q _ => opt (one1 ds) fun d => opt (asI d) fun j => (-(2 ^ 62) ≤ j ∧ j < 2 ^ 62) ∧ Q (rng 0 j.toNat) S
def aRng2 (t : AM (List D)) : AM (List D) := aBind t fun ds => fun _ S Q _ => opt (two2 ds) fun d => opt (asI d.1) fun i => opt (asI d.2) fun j => (-(2 ^ 62) ≤ i ∧ i < 2 ^ 62 ∧ -(2 ^ 62) ≤ j ∧ j < 2 ^ 62) ∧ Q (rng i (j - i).toNat) S
theorem ji_range1 {a : Expr} (hg : Gl X "range") (hm : X.mg "range" = none) (ha : JA X n [a] t) (hs : starEach [a] X.env = [(false, eval a X.env)] := by rfl) : JI X n tg (.Call (.Name "range" p) [a] [] pos) (aRng1 t) := PI.imp (pi_range1 hg hm ha hs) fun σ H R h => by
  refine (upI.bind h).mono ?_
  rintro v H1 ⟨w1, ρ, S1, ds, f1, r1, Q', E', hf, k⟩
  obtain ⟨d, e1, hf⟩ := opt_some hf
  obtain ⟨j, e2, ⟨z1, z2⟩, q⟩ := opt_some hf
  obtain ⟨x, rfl, rx⟩ := one_rel e1 r1
  obtain ⟨rfl, rfl⟩ := asI_rel e2 rx
  exact ⟨j, rfl, z1, z2, k _ q _ walk_rng⟩
theorem ji_range2 {a b : Expr} (hg : Gl X "range") (hm : X.mg "range" = none) (ha : JA X n [a, b] t) (hs : starEach [a, b] X.env = [(false, eval a X.env), (false, eval b X.env)] := by rfl) (hs2 : starEach [b] X.env = [(false, eval b X.env)] := by rfl) :
    JI X n tg (.Call (.Name "range" p) [a, b] [] pos) (aRng2 t) := PI.imp (pi_range2 hg hm ha hs hs2) fun σ H R h => by
  refine (upI.bind h).mono ?_
  rintro v H1 ⟨w1, ρ, S1, ds, f1, r1, Q', E', hf, k⟩
  obtain ⟨d, e1, hf⟩ := opt_some hf
  obtain ⟨i, e2, hf⟩ := opt_some hf
  obtain ⟨j, e3, z, q⟩ := opt_some hf
  obtain ⟨x, y, rfl, rx, ry⟩ := two_rel e1 r1
  obtain ⟨_, rfl⟩ := asI_rel e2 rx
  obtain ⟨_, rfl⟩ := asI_rel e3 ry
  exact ⟨i, j, rfl, z, k _ q _ walk_rng⟩
/-- enumerate(a list that stays) -/
def enumD (xs : List D) : List D := (List.range xs.length).map fun (i : Nat) => D.tup [.int i, xs.getD i .non]
def fvL : D → Option (List D)
  | .lst xs => some xs
  | _ => none
def aEnum (t : AM (List D)) : AM (List D) := aBind t fun ds => fun _ S Q _ => opt (one1 ds) fun d => opt (fvL d) fun xs => Q (enumD xs) S
theorem fvL_stay {c : Cg} {w : Wd} {N : Nat} {H : Hp} {d : D} {v : V} {xs : List D} (h : fvL d = some xs) (r : Rel c w N H d v) : ∃ a vs, v = .ref a ∧ SqL c.K H a vs ∧ RelL c w N H xs vs ∧ ∀ w2 N2 H2, Stp w N H w2 N2 H2 → SqL c.K H2 a vs := by
  cases r with
  | @lst a ys vs h1 h2 h3 =>
    simp [fvL] at h; subst h
    exact ⟨a, vs, rfl, SqL.of h1, h3, fun w2 N2 H2 s => SqL.of (s.fro _ _ h1 h2)⟩
  | _ => simp [fvL] at h
theorem pair_new {c : Cg} {w : Wd} {N : Nat} {H : Hp} {T : Addr} {d e : D} {x y : V} (hT : H T = none) (r1 : Rel c w N H d x) (r2 : Rel c w N H e y) : Rel c w N (upd H T (.tup [x, y])) (.tup [d, e]) (.ref T) :=
  .tup (SqT.of upd_same) (.cons (r1.stp (Stp.alloc hT _)) (.cons (r2.stp (Stp.alloc hT _)) .nil))
theorem ji_enum {elts : List Expr} {kk : Nat} {tpos : Pos} (hg : Gl X "enumerate") (hm : X.mg "enumerate" = none) (ha : JA X n [e] t) (hs : starEach [e] X.env = [(false, eval e X.env)] := by rfl) (hK : X.K = n.c.K := by rfl) :
    JI X n (.Tuple elts kk tpos) (.Call (.Name "enumerate" p) [e] [] pos) (aEnum t) := PI.imp (pi_enum hg hm ha hs) fun σ H R h => by
  refine (upI.bind h).mono ?_
  rintro v H1 ⟨w1, ρ, S1, ds, f1, r1, Q', E', hf, k⟩
  obtain ⟨d, e1, hf⟩ := opt_some hf
  obtain ⟨xs, e2, q⟩ := opt_some hf
  obtain ⟨x, rfl, rx⟩ := one_rel e1 r1
  obtain ⟨a, vs, rfl, hb, hl, hst⟩ := fvL_stay e2 rx
  rw [hK]
  refine ⟨a, vs, rfl, hb, k _ q _ ⟨_, YPair (fun i => some (.int (i : Nat))) (fun i => vs[i]?), ?_, hst, ?_⟩⟩
  · have : (enumD xs).length = vs.length := by simp [enumD, hl.len]
    rw [this]
    exact walk_enum
  · rintro w2 N2 H2 i z H3 s hi ⟨T, x, y, rfl, hT, rfl, hx, hy⟩
    have hi' : i < xs.length := by simpa [enumD] using hi
    cases hx
    obtain ⟨d', h1, h2⟩ := hl.getV hy
    refine ⟨same_new hT _, .tup [.int i, xs.getD i .non], by simp [enumD, hi'], ?_⟩
    have : xs.getD i .non = d' := by simp [List.getD, h1]
    rw [this]
    exact pair_new hT (.int _) (h2.stp s)
/-- zip of two lists, two tuples, or a tuple and a list -/
def zipD (xs ys : List D) : List D := (List.range (min xs.length ys.length)).map fun (i : Nat) => D.tup [xs.getD i .non, ys.getD i .non]
end
/-! ### targets of names -/
abbrev AG := D → Ev → (Ev → Prop) → Prop
abbrev AGs := List D → Ev → (Ev → Prop) → Prop
/-- the reading of a target, held against its exact one; only slots of vs change -/
def GL (c : Cg) (g : TG) (gD : AG) (vs : List Nat) : Prop := ∀ (gx : Gx) (w : Wd) (ρ : Ev) (S : Sto) (σ : L2.St) (H : Hp) (d : D) (v : V) (Q' : Ev → Prop) (Q : L2.St → Hp → Prop), Sta c gx w ρ S σ H → Rel c w S.length H d v → gD d ρ Q' →
  (∀ ρ' σ', Sta c gx w ρ' S σ' H → wipe σ' vs = wipe σ vs → Q' ρ' → Q σ' H) → g v σ H Q
def GLs (c : Cg) (g : TGs) (gD : AGs) (vs : List Nat) : Prop := ∀ (gx : Gx) (w : Wd) (ρ : Ev) (S : Sto) (σ : L2.St) (H : Hp) (ds : List D) (us : List V) (Q' : Ev → Prop) (Q : L2.St → Hp → Prop), Sta c gx w ρ S σ H → RelL c w S.length H ds us → gD ds ρ Q' →
  (∀ ρ' σ', Sta c gx w ρ' S σ' H → wipe σ' vs = wipe σ vs → Q' ρ' → Q σ' H) → g us σ H Q
def gN (i : Nat) : AG := fun d ρ Q => Q (ρ.set i (some d))
def gsN : AGs := fun ds ρ Q => ds = [] ∧ Q ρ
def hd1 : List D → Option (D × List D)
  | [] => none
  | d :: r => some (d, r)
def gsC (g : AG) (gs : AGs) : AGs := fun ds ρ Q => opt (hd1 ds) fun p => g p.1 ρ fun ρ1 => gs p.2 ρ1 Q
def gT (m : Nat) (gs : AGs) : AG := fun d ρ Q => opt (asT d) fun xs => xs.length = m ∧ gs xs ρ Q
theorem wipe_set {σ : L2.St} {i : Nat} {o : Option V} : ∀ {vs : List Nat}, i ∈ vs → wipe (σ.set i o) vs = wipe σ vs
  | [], h => absurd h (by simp)
  | v :: vs, h => by
    simp only [wipe]
    by_cases hi : i ∈ vs
    · rw [wipe_set hi]
    · rcases List.mem_cons.mp h with rfl | h
      · have e : ∀ {vs : List Nat} {σ : L2.St}, i ∉ vs → wipe (σ.set i o) vs = (wipe σ vs).set i o := by
          intro vs
          induction vs with
          | nil => intro σ _; rfl
          | cons u us ih =>
            intro σ hn
            simp only [List.mem_cons, not_or] at hn
            simp only [wipe]
            rw [ih hn.2, List.set_comm _ _ hn.1]
        rw [e hi, List.set_set]
      · exact absurd h hi
theorem gl_name {c : Cg} {i : Nat} {vs : List Nat} (h : i ∈ vs) : GL c (gName i) (gN i) vs := by
  intro gx w ρ S σ H d v Q' Q st r h' k
  exact k _ _ ⟨st.wf, st.ev.set r, st.gx⟩ (wipe_set h) h'
theorem gls_nil {c : Cg} {vs : List Nat} : GLs c gNil gsN vs := by
  intro gx w ρ S σ H ds us Q' Q st r h' k
  obtain ⟨rfl, h'⟩ := h'
  cases r
  exact ⟨rfl, k _ _ st rfl h'⟩
theorem gls_cons {c : Cg} {vs : List Nat} {g : TG} {gD : AG} {gs : TGs} {gsD : AGs} (h1 : GL c g gD vs) (h2 : GLs c gs gsD vs) : GLs c (gCons g gs) (gsC gD gsD) vs := by
  intro gx w ρ S σ H ds us Q' Q st r h' k
  obtain ⟨p, e, h'⟩ := opt_some h'
  cases r with
  | nil => cases e
  | @cons d v ds' vs' r rs =>
    cases e
    exact ⟨v, vs', rfl, h1 gx w ρ S σ H d v _ _ st r h' fun ρ1 σ1 st1 w1 q => h2 gx w ρ1 S σ1 H ds' vs' _ _ st1 rs q fun ρ2 σ2 st2 w2 q => k ρ2 σ2 st2 (w2.trans w1) q⟩
theorem gl_tup {c : Cg} {vs : List Nat} {m : Nat} {gs : TGs} {gsD : AGs} (h2 : GLs c gs gsD vs) : GL c (gTup c.K m gs) (gT m gsD) vs := by
  intro gx w ρ S σ H d v Q' Q st r h' k
  obtain ⟨xs, e, hm, h'⟩ := opt_some h'
  obtain ⟨a, us, rfl, ha, la⟩ := asT_rel e r
  exact ⟨a, us, rfl, ha, by rw [← la.len]; exact hm, h2 gx w ρ S σ H xs us _ _ st la h' k⟩
/-! ### comprehensions -/
def lcX (g : AG) (tt : AM Bool) (te : AM D) (ρ : Ev) (Q : List D → Sto → Prop) : List D → List D → Sto → Prop
  | [], acc, S => Q acc S
  | x :: r, acc, S => g x ρ fun ρ2 => tt ρ2 S (fun b S3 => if b = true then te ρ2 S3 (fun y S4 => acc.length < big ∧ lcX g tt te ρ Q r (acc ++ [y]) S4) (fun _ _ => False) else lcX g tt te ρ Q r acc S3) fun _ _ => False
def wipeD (ρ : Ev) : List Nat → Ev
  | [] => ρ
  | v :: vs => (wipeD ρ vs).set v none
theorem RelE.wipe {c : Cg} {w : Wd} {N : Nat} {H : Hp} {ρ : Ev} {σ : L2.St} (h : RelE c w N H ρ σ) : ∀ vs : List Nat, RelE c w N H (wipeD ρ vs) (L2.wipe σ vs)
  | [] => h
  | v :: vs => RelE.unset (RelE.wipe h vs)
def aLc (ti : AM (List D)) (g : AG) (tt : AM Bool) (te : AM D) (vs : List Nat) : AM D := aBind ti fun xs => fun ρ S Q _ => lcX g tt te (wipeD ρ vs) (fun ys S' => Q (.lst ys) S') xs [] S
/-- the comprehension's list stays open for change -/
def aLcM (ti : AM (List D)) (g : AG) (tt : AM Bool) (te : AM D) (vs : List Nat) : AM D := aBind ti fun xs => fun ρ S Q _ => lcX g tt te (wipeD ρ vs) (fun ys S' => Q (.ref S'.length) (S' ++ [.lst ys])) xs [] S
def Cn.no (n : Cn) : Cn := { n with W := fun _ _ _ _ => False }
theorem wipe_at (σ : L2.St) : ∀ (vs : List Nat) (j : Nat), (wipe σ vs)[j]? = if j ∈ vs then (if j < σ.length then some none else none) else σ[j]?
  | [], j => by simp [wipe]
  | v :: vs, j => by
    simp only [wipe, List.getElem?_set, wipe_length, wipe_at σ vs j, List.mem_cons]
    by_cases z : v = j
    · subst z; simp
    · have z' : ¬ j = v := fun e => z e.symm
      simp [z, z']
theorem wipe_twice (σ : L2.St) (vs : List Nat) : wipe (wipe σ vs) vs = wipe σ vs := by
  refine List.ext_getElem? fun j => ?_
  rw [wipe_at, wipe_length, wipe_at]
  by_cases h : j ∈ vs <;> simp [h]
theorem lc_run {n : Cn} {J : It} {xs : List D} {g : TG} {gD : AG} {tt : AM Bool} {te : AM D} {vs : List Nat} {w : Wd} {ρ : Ev} {S : Sto} {σ : L2.St} {H1 : Hp} {Qd : List D → Sto → Prop} {Q : VK} (gl : GL n.c g gD vs) (st : Sta n.c n.g w ρ S σ H1)
    (wk : WalkD n.c w S.length H1 J xs) (h : lcX gD tt te (wipeD ρ vs) Qd xs [] S)
    (hd : ∀ D w2 S2 H2 ys us, H1 D = none → Stp w S.length H1 w2 S2.length H2 → Wf n.c w2 S2 H2 → w2.R D → (∀ m, m < S2.length → w2.i m ≠ D) → H2 D = some (.lst us) → RelL n.c w2 S2.length H2 ys us → Qd ys S2 → Q (.ref D) H2) :
    LcB J g (upT n.no tt) (upE n.no te) vs σ Q H1 := by
  obtain ⟨G, Y, wlk, hG, hY⟩ := wk
  refine lcB wlk (fun D i H => ∃ w2 S2 ys us, Stp w S.length H1 w2 S2.length H ∧ Wf n.c w2 S2 H ∧ w2.R D ∧ (∀ m, m < S2.length → w2.i m ≠ D) ∧ H D = some (.lst us) ∧ RelL n.c w2 S2.length H ys us ∧ lcX gD tt te (wipeD ρ vs) Qd (xs.drop i) ys S2) ?_ ?_ ?_ ?_
  · intro D hD
    refine ⟨w.hold D, S, [], [], Stp.hold hD _, st.wf.hold hD _, .inr rfl, fun m hm z => ?_, upd_same, .nil, h⟩
    obtain ⟨ho, e, _⟩ := RelO.isAt (st.wf.obj m S[m] (by simp))
    have z : w.i m = D := z
    rw [z, hD] at e; cases e
  · rintro D i H hi ⟨w2, S2, ys, us, s2, f2, _⟩
    exact hG w2 _ H s2
  · rintro D i x H H' hD hi ⟨w2, S2, ys, us, s2, f2, hR, hn, hu, hl, hx⟩ y
    obtain ⟨sm, d, hd', rd⟩ := hY w2 _ H i x H' s2 hi y
    have sH : Stp w2 S2.length H w2 S2.length H' := Stp.same sm
    have f3 := f2.same sm
    have hdr : xs.drop i = d :: xs.drop (i + 1) := by
      rw [List.drop_eq_getElem?_toList_append, hd']; rfl
    rw [hdr] at hx
    have st3 : Sta n.c n.g w2 (wipeD ρ vs) S2 (wipe σ vs) H' := ⟨f3, (st.ev.stp (s2.trans sH)).wipe vs, st.gx.stp (s2.trans sH)⟩
    refine gl n.g w2 (wipeD ρ vs) S2 (wipe σ vs) H' d x _ _ st3 rd hx fun ρ2 σ2 st4 hw hx => ⟨?_, ?_⟩
    · rw [hw]
      exact wipe_twice σ vs
    · refine ⟨w2, ρ2, S2, st4, _, _, hx, ?_, fun _ _ _ _ _ _ _ _ _ z => z.elim⟩
      rintro w5 S5 H5 b b' s5 f5 rfl hx
      have hD5 : H5 D = some (.lst us) := s5.rsv D _ (sm _ _ hu) hR hn
      have n5 : ∀ m, m < S5.length → w5.i m ≠ D := fun m hm z => by
        by_cases k : m < S2.length
        · rw [s5.ids m k] at z; exact hn m k z
        · have q := s5.new m (by omega) hm
          rw [z, sm _ _ hu] at q; cases q
      cases b with
      | false =>
        rw [if_neg Bool.false_ne_true] at hx ⊢
        exact ⟨w5, S5, ys, us, (s2.trans sH).trans s5, f5, s5.up _ hR, n5, hD5, (hl.stp sH).stp s5, hx⟩
      | true =>
        rw [if_pos rfl] at hx ⊢
        refine ⟨w5, ρ2, S5, st4.step s5 f5, _, _, hx, ?_, fun _ _ _ _ _ _ _ _ _ z => z.elim⟩
        rintro w6 S6 H6 yd yv s6 f6 ry ⟨hb, hx⟩
        have hD6 : H6 D = some (.lst us) := s6.rsv D _ hD5 (s5.up _ hR) n5
        have n6 : ∀ m, m < S6.length → w6.i m ≠ D := fun m hm z => by
          by_cases k : m < S5.length
          · rw [s6.ids m k] at z; exact n5 m k z
          · have q := s6.new m (by omega) hm
            rw [z, hD5] at q; cases q
        have hR6 := s6.up _ (s5.up _ hR)
        have m0 : Stp0 w6 S6.length H6 w6 S6.length (upd H6 D (.lst (us ++ [yv]))) := Stp0.mine hR6 hD6
        refine ⟨us, hD6, ?_, w6, S6, ys ++ [yd], us ++ [yv], Stp.mut (((s2.trans sH).trans s5).trans s6) hD, f6.mine hR6 hD6 n6, hR6, n6, upd_same, ?_, hx⟩
        · rw [← hl.len]; exact big_lt hb
        · exact ((((hl.stp sH).stp s5).stp s6).append (.cons ry .nil)).stp0 m0
  · rintro D H hD ⟨w2, S2, ys, us, s2, f2, hR, hn, hu, hl, hx⟩
    rw [List.drop_length] at hx
    exact hd D w2 S2 H ys us hD s2 f2 hR hn hu hl hx
end A

set_option Elab.async false
set_option linter.all false
set_option maxRecDepth 100000
set_option maxHeartbeats 4000000
namespace A
open PySem PySem.Spec PyProof.Rows L2
/-! ### the comprehension's list: it stays, or it may change -/
theorem lc_stay {c : Cg} {w w2 : Wd} {S S2 : Sto} {H H2 : Hp} {D : Addr} {ys : List A.D} {us : List V} (f : Wf c w S H) (hD : H D = none) (s : Stp w S.length H w2 S2.length H2) (f2 : Wf c w2 S2 H2) (hR : w2.R D) (hn : ∀ m, m < S2.length → w2.i m ≠ D)
    (hu : H2 D = some (.lst us)) (hl : RelL c w2 S2.length H2 ys us) : ∃ w3, Stp w S.length H w3 S2.length H2 ∧ Wf c w3 S2 H2 ∧ Rel c w3 S2.length H2 (.lst ys) (.ref D) := by
  refine ⟨⟨fun a => w2.R a ∧ a ≠ D, w2.i⟩, ⟨s.le, s.ids, s.new, fun a h => ⟨s.up a h, fun z => ?_⟩, fun a h => s.res a h.1, s.fro, s.rsv, s.dom, s.tups⟩, ⟨fun m hm => ⟨f2.res m hm, hn m hm⟩, fun a h => f2.held a h.1, f2.inj, fun m o e => ?_⟩, .lst hu (fun z => z.2 rfl) ?_⟩
  · obtain ⟨o, e⟩ := f.held a h
    rw [z, hD] at e; cases e
  · have z := f2.obj m o e
    exact RelO.cut (w := w2) (w0 := ⟨fun a => w2.R a ∧ a ≠ D, w2.i⟩) (fun a h => h.1) (fun _ _ => rfl) (RelO.clO z) z
  · exact hl.cut (w := w2) (w0 := ⟨fun a => w2.R a ∧ a ≠ D, w2.i⟩) (fun a h => h.1) (fun _ _ => rfl) hl.clsd
theorem lc_open {c : Cg} {w w2 : Wd} {S S2 : Sto} {H H2 : Hp} {D : Addr} {ys : List A.D} {us : List V} (f : Wf c w S H) (hD : H D = none) (s : Stp w S.length H w2 S2.length H2) (f2 : Wf c w2 S2 H2) (hR : w2.R D) (hn : ∀ m, m < S2.length → w2.i m ≠ D)
    (hu : H2 D = some (.lst us)) (hl : RelL c w2 S2.length H2 ys us) : ∃ w3, Stp w S.length H w3 (S2 ++ [O.lst ys]).length H2 ∧ Wf c w3 (S2 ++ [.lst ys]) H2 ∧ Rel c w3 (S2 ++ [O.lst ys]).length H2 (.ref S2.length) (.ref D) := by
  have len : (S2 ++ [O.lst ys]).length = S2.length + 1 := by simp
  have old : ∀ m, m < S2.length → (if m = S2.length then D else w2.i m) = w2.i m := fun m hm => if_neg (Nat.ne_of_lt hm)
  have sp : ∀ n, n < S2.length + 1 → n = S2.length ∨ n < S2.length := fun n h => by omega
  have s0 : Stp0 w2 S2.length H2 ⟨w2.R, fun m => if m = S2.length then D else w2.i m⟩ (S2.length + 1) H2 := ⟨Nat.le_succ _, old, fun _ h => .inl h, fun _ _ e _ => e, fun _ _ h => h⟩
  refine ⟨⟨w2.R, fun m => if m = S2.length then D else w2.i m⟩, ?_, ?_, ?_⟩
  · rw [len]
    refine ⟨Nat.le_succ_of_le s.le, fun m hm => (old m (Nat.lt_of_lt_of_le hm s.le)).trans (s.ids m hm), fun m h1 h2 => ?_, s.up, s.res, s.fro, s.rsv, s.dom, s.tups⟩
    rcases sp m h2 with rfl | h2
    · show H (if S2.length = S2.length then D else _) = none
      rw [if_pos rfl]; exact hD
    · show H (if m = S2.length then D else _) = none
      rw [old m h2]; exact s.new m h1 h2
  · refine ⟨fun m hm => ?_, f2.held, fun m k hm hk e => ?_, fun m o e => ?_⟩
    · rw [len] at hm
      show w2.R (if m = S2.length then D else w2.i m)
      rcases sp m hm with rfl | hm
      · rw [if_pos rfl]; exact hR
      · rw [old m hm]; exact f2.res m hm
    · rw [len] at hm hk
      have e : (if m = S2.length then D else w2.i m) = (if k = S2.length then D else w2.i k) := e
      rcases sp m hm with rfl | hm
      · rcases sp k hk with rfl | hk
        · rfl
        · rw [if_pos rfl, old k hk] at e; exact absurd e.symm (hn k hk)
      · rcases sp k hk with rfl | hk
        · rw [if_pos rfl, old m hm] at e; exact absurd e (hn m hm)
        · rw [old m hm, old k hk] at e; exact f2.inj m k hm hk e
    · rw [len]
      have hm : m < S2.length + 1 := by rw [← len]; exact (List.getElem?_eq_some_iff.mp e).1
      rcases sp m hm with rfl | hm
      · have z : o = .lst ys := by simpa using e.symm
        subst z
        refine ⟨us, ?_, hl.stp0 s0⟩
        show H2 (if S2.length = S2.length then D else _) = _
        rw [if_pos rfl]; exact hu
      · rw [List.getElem?_append_left hm] at e
        have z := RelO.at0 s0 (f2.obj m o e) fun x h => h
        show RelO c _ _ H2 o (if m = S2.length then D else w2.i m)
        rw [old m hm]; exact z
  · rw [len]
    have := Rel.ref (c := c) (w := ⟨w2.R, fun m => if m = S2.length then D else w2.i m⟩) (N := S2.length + 1) (H := H2) (n := S2.length) (Nat.lt_succ_self _)
    simp only [if_true] at this
    exact this
section
variable {X : Cx} {n : Cn} {elt tg iter : Expr} {ifs : List Expr} {scope : Scope} {own : List (Str × Nat)} {pos : Pos} {ti : AM (List D)} {g : TG} {gD : AG} {tt : AM Bool} {te : AM D}
theorem up_lc {vs : List Nat} (gl : GL n.c g gD vs) {σ : L2.St} {H : Hp} {Q : VK} (h : upE n (aLc ti gD tt te vs) σ H Q) : tLc (upI n ti) g (upT n.no tt) (upE n.no te) vs σ H Q := by
  obtain ⟨w, ρ, S, st, Q', E', ht, hq, he⟩ := h
  rw [tLc_eq]
  refine ⟨w, ρ, S, st, _, E', ht, fun w1 S1 H1 xs s1 f1 hx J wk => ?_, he⟩
  refine lc_run gl (st.step s1 f1) wk hx fun D w2 S2 H2 ys us hD s2 f2 hR hn hu hl q => ?_
  obtain ⟨w3, s3, f3, r3⟩ := lc_stay f1 hD s2 f2 hR hn hu hl
  exact hq w3 S2 H2 _ _ (s1.trans s3) f3 r3 q
theorem up_lcM {vs : List Nat} (gl : GL n.c g gD vs) {σ : L2.St} {H : Hp} {Q : VK} (h : upE n (aLcM ti gD tt te vs) σ H Q) : tLc (upI n ti) g (upT n.no tt) (upE n.no te) vs σ H Q := by
  obtain ⟨w, ρ, S, st, Q', E', ht, hq, he⟩ := h
  rw [tLc_eq]
  refine ⟨w, ρ, S, st, _, E', ht, fun w1 S1 H1 xs s1 f1 hx J wk => ?_, he⟩
  refine lc_run gl (st.step s1 f1) wk hx fun D w2 S2 H2 ys us hD s2 f2 hR hn hu hl q => ?_
  obtain ⟨w3, s3, f3, r3⟩ := lc_open f1 hD s2 f2 hR hn hu hl
  exact hq w3 (S2 ++ [.lst ys]) H2 _ _ (s1.trans s3) f3 r3 q
def aYes : AM Bool := fun _ S Q _ => Q true S
theorem jts_nil : PTs X [] (upT n aYes) := ⟨fun pins s σ H Q I h => by
  obtain ⟨w, ρ, S, st, h⟩ := h
  exact pts_nil.run pins s σ H Q I (h.fin st.wf rfl)⟩
theorem jts_one {c : Expr} {t : AM Bool} (h : JT X n c t) : PTs X [c] (upT n t) := pts_one h
theorem j_lc (hc : X.calm = true) (hN : X.N.Nodup) (gl : GL n.c g gD (own.map (·.2))) (hi : JI X n tg iter ti) (ok : BlkOk X.N X.env.scope scope own)
    (hg : ∀ (s : Shared) (H : Hp) (C : Addr) (cl : List (Str × Addr)) (fp : List Addr), PG (X.blk s H scope (compEnvC scope cl C X.env) fp) tg g) (ht : ∀ (s : Shared) (H : Hp) (C : Addr) (cl : List (Str × Addr)) (fp : List Addr), PTs (X.blk s H scope (compEnvC scope cl C X.env) fp) ifs (upT n.no tt))
    (he : ∀ (s : Shared) (H : Hp) (C : Addr) (cl : List (Str × Addr)) (fp : List Addr), JE (X.blk s H scope (compEnvC scope cl C X.env) fp) n.no elt te) (hs : ∀ x, foldedSetIterable iter X.env x = pure x := by intro _; rfl) :
    JE X n (.ListComp elt [⟨tg, iter, ifs, 0⟩] scope pos) (aLc ti gD tt te (own.map (·.2))) := PE.imp (pe_lc hc hN hi ok hg ht he hs) fun _ _ _ h => up_lc gl h
theorem j_lcM (hc : X.calm = true) (hN : X.N.Nodup) (gl : GL n.c g gD (own.map (·.2))) (hi : JI X n tg iter ti) (ok : BlkOk X.N X.env.scope scope own)
    (hg : ∀ (s : Shared) (H : Hp) (C : Addr) (cl : List (Str × Addr)) (fp : List Addr), PG (X.blk s H scope (compEnvC scope cl C X.env) fp) tg g) (ht : ∀ (s : Shared) (H : Hp) (C : Addr) (cl : List (Str × Addr)) (fp : List Addr), PTs (X.blk s H scope (compEnvC scope cl C X.env) fp) ifs (upT n.no tt))
    (he : ∀ (s : Shared) (H : Hp) (C : Addr) (cl : List (Str × Addr)) (fp : List Addr), JE (X.blk s H scope (compEnvC scope cl C X.env) fp) n.no elt te) (hs : ∀ x, foldedSetIterable iter X.env x = pure x := by intro _; rfl) :
    JE X n (.ListComp elt [⟨tg, iter, ifs, 0⟩] scope pos) (aLcM ti gD tt te (own.map (·.2))) := PE.imp (pe_lc hc hN hi ok hg ht he hs) fun _ _ _ h => up_lcM gl h
end
/-! ### slices, stars -/
section
variable {X : Cx} {n : Cn} {e : Expr} {es : List Expr} {te : AM D} {t : AM (List D)} {pos p2 : Pos} {lo hi : Option Expr} {tl th : AM (Option Int)}
def oNo : AM (Option Int) := fun _ S Q _ => Q none S
def oSo (t : AM D) : AM (Option Int) := aBind t fun d => fun _ S Q _ => opt (asI d) fun i => Q (some i) S
theorem jo_none : JO X n none oNo := PO.imp po_none fun σ H Q ⟨w, ρ, S, st, h⟩ => h.fin st.wf rfl
theorem jo_some (h : JE X n e te) : JO X n (some e) (oSo te) := PO.imp (po_some h) fun σ H Q ⟨w, ρ, S, st, h⟩ => by
  refine (upW.bind st h).mono ?_
  rintro v H1 ⟨w1, S1, d, st1, _, r1, h1⟩
  refine h1.op fun Q' hf hq => ?_
  obtain ⟨i, e1, q⟩ := opt_some hf
  obtain ⟨rfl, rfl⟩ := asI_rel e1 r1
  exact ⟨i, rfl, hq _ _ _ _ _ Stp.refl st1.wf rfl q⟩
def aSl (te : AM D) (tl th : AM (Option Int)) : AM D := aBind te fun d => aBind tl fun l => aBind th fun u => fun _ S Q _ => dSl d l u S Q
theorem j_sl (he : JE X n e te) (hl : JO X n lo tl) (hu : JO X n hi th) (hK : X.K = n.c.K := by rfl) : JE X n (.Subscript e (.Slice lo hi none p2) pos) (aSl te tl th) := PE.imp (pe_slice (sl_A n.c.K hK) he hl hu) fun σ H Q ⟨w, ρ, S, st, h⟩ => by
  refine (upW.bind st h).mono ?_
  rintro x H1 ⟨w1, S1, d, st1, _, r1, h1⟩
  refine (upW.bind st1 h1).mono ?_
  rintro l H2 ⟨w2, S2, l', st2, s2, rfl, h2⟩
  refine (upW.bind st2 h2).mono ?_
  rintro u H3 ⟨w3, S3, u', st3, s3, rfl, h3⟩
  exact h3.op fun Q' hf hq => os_sl st3.wf ((r1.stp s2).stp s3) hf hq
theorem ja_star {p : Pos} (he : JE X n e te) (hr : JA X n es t) (hK : X.K = n.c.K := by rfl) (hs : starEach (.Starred e p :: es) X.env = (true, eval e X.env) :: starEach es X.env := by rfl) : JA X n (.Starred e p :: es) (aStar te t) :=
  PA.imp (kpa_star n.c.K he hr hK hs) fun σ H Q ⟨w, ρ, S, st, h⟩ => by
  refine (upW.bind st h).mono ?_
  rintro x H1 ⟨w1, S1, d, st1, _, r1, Q', E', ht, hq, he⟩
  obtain ⟨ys, e1, ht⟩ := opt_some ht
  obtain ⟨a, vs, rfl, ha, la⟩ := sv_rel st1.wf e1 r1
  refine ⟨a, vs, rfl, ha.symm, ?_⟩
  have h1 : upW n.c n.W (RelL n.c) (aBind t (fun xs => fun _ S Q _ => Q (ys ++ xs) S)) w1 ρ S1 σ H1 Q := ⟨Q', E', ht, hq, he⟩
  refine (upW.bind st1 h1).mono ?_
  rintro us H2 ⟨w2, S2, ds, st2, s2, r2, h2⟩
  exact h2.fin st2.wf ((la.stp s2).append r2)
end
end A

set_option Elab.async false
set_option linter.all false
set_option maxRecDepth 100000
set_option maxHeartbeats 4000000
namespace A
open PySem PySem.Spec PyProof.Rows L2
/-! ### statements -/
structure EndsA where
  nx : Ev → Sto → Prop
  rt : D → Sto → Prop
  bk : Ev → Sto → Prop
  ct : Ev → Sto → Prop
  ex : Exc → Ev → Sto → Prop
abbrev AS := EndsA → Ev → Sto → Prop
/-- the exact ends lead to the wanted ones -/
structure OkE (n : Cn) (w : Wd) (N : Nat) (H : Hp) (D' : EndsA) (De : Ends) : Prop where
  nx : ∀ w' ρ' S' σ' H', Stp w N H w' S'.length H' → Sta n.c n.g w' ρ' S' σ' H' → D'.nx ρ' S' → De.nx σ' H'
  rt : ∀ w' S' H' d v, Stp w N H w' S'.length H' → Wf n.c w' S' H' → Rel n.c w' S'.length H' d v → D'.rt d S' → De.rt v H'
  bk : ∀ w' ρ' S' σ' H', Stp w N H w' S'.length H' → Sta n.c n.g w' ρ' S' σ' H' → D'.bk ρ' S' → De.bk σ' H'
  ct : ∀ w' ρ' S' σ' H', Stp w N H w' S'.length H' → Sta n.c n.g w' ρ' S' σ' H' → D'.ct ρ' S' → De.ct σ' H'
  ex : ∀ w' ρ' S' σ' H' x cls d, Stp w N H w' S'.length H' → Sta n.c n.g w' ρ' S' σ' H' → RelX n.c w' S'.length H' x cls d → D'.ex x ρ' S' → n.W cls d σ' H'
theorem OkE.step {n : Cn} {w w1 : Wd} {N N1 : Nat} {H H1 : Hp} {D' : EndsA} {De : Ends} (k : OkE n w N H D' De) (s : Stp w N H w1 N1 H1) : OkE n w1 N1 H1 D' De :=
  ⟨fun w' ρ' S' σ' H' s' => k.nx w' ρ' S' σ' H' (s.trans s'), fun w' S' H' d v s' => k.rt w' S' H' d v (s.trans s'), fun w' ρ' S' σ' H' s' => k.bk w' ρ' S' σ' H' (s.trans s'), fun w' ρ' S' σ' H' s' => k.ct w' ρ' S' σ' H' (s.trans s'),
    fun w' ρ' S' σ' H' x cls d s' => k.ex w' ρ' S' σ' H' x cls d (s.trans s')⟩
def upS (n : Cn) (t : AS) : TS := fun De σ H => ∃ w ρ S D', Sta n.c n.g w ρ S σ H ∧ t D' ρ S ∧ OkE n w S.length H D' De
abbrev JS (X : Cx) (n : Cn) (st : Stmt) (t : AS) : Prop := PS X st (upS n t)
abbrev JSs (X : Cx) (n : Cn) (st : List Stmt) (t : AS) : Prop := PSs X st (upS n t)
def sBind {α : Type} (t : AM α) (f : α → AS) : AS := fun De ρ S => t ρ S (fun a S1 => f a De ρ S1) fun x S1 => De.ex x ρ S1
theorem upS.bind {α β : Type} {n : Cn} {r : Wd → Nat → Hp → α → β → Prop} {t : AM α} {f : α → AS} {De : Ends} {σ : L2.St} {H : Hp} (h : upS n (sBind t f) De σ H) :
    up n.c n.g n.W r t σ H (fun b H1 => ∃ w1 ρ S1 D' a, Sta n.c n.g w1 ρ S1 σ H1 ∧ r w1 S1.length H1 a b ∧ f a D' ρ S1 ∧ OkE n w1 S1.length H1 D' De) := by
  obtain ⟨w, ρ, S, D', st, ht, k⟩ := h
  exact ⟨w, ρ, S, st, _, _, ht, fun w1 S1 H1 a b s1 f1 r1 hf => ⟨w1, ρ, S1, D', a, st.step s1 f1, r1, hf, k.step s1⟩, fun w1 S1 H1 x cls d s1 f1 rx hx => k.ex w1 ρ S1 σ H1 x cls d s1 (st.step s1 f1) rx hx⟩
theorem sW.bind {α β : Type} {n : Cn} {r : Wd → Nat → Hp → α → β → Prop} {t : AM α} {f : α → AS} {De : Ends} {σ : L2.St} {H : Hp} {w : Wd} {ρ : Ev} {S : Sto} {D' : EndsA} (st : Sta n.c n.g w ρ S σ H) (h : sBind t f D' ρ S) (k : OkE n w S.length H D' De) :
    up n.c n.g n.W r t σ H (fun b H1 => ∃ w1 S1 a, Sta n.c n.g w1 ρ S1 σ H1 ∧ Stp w S.length H w1 S1.length H1 ∧ r w1 S1.length H1 a b ∧ f a D' ρ S1 ∧ OkE n w1 S1.length H1 D' De) :=
  ⟨w, ρ, S, st, _, _, h, fun w1 S1 H1 a b s1 f1 r1 hf => ⟨w1, S1, a, st.step s1 f1, s1, r1, hf, k.step s1⟩, fun w1 S1 H1 x cls d s1 f1 rx hx => k.ex w1 ρ S1 σ H1 x cls d s1 (st.step s1 f1) rx hx⟩
section
variable {X : Cx} {n : Cn} {st : Stmt} {rest : List Stmt} {t u : AS} {e o : Expr} {ta tb tv : AM D} {tc : AM Bool} {pos pos' : Pos}
def sNext : AS := fun De ρ S => De.nx ρ S
def sSeq (t u : AS) : AS := fun De ρ S => t { De with nx := u De } ρ S
theorem js_nil : JSs X n [] sNext := PSs.imp pss_nil fun De σ H ⟨w, ρ, S, D', st, h, k⟩ => k.nx w ρ S σ H Stp.refl st h
theorem js_one (h : JS X n st t) : JSs X n [st] t := pss_one h
theorem js_cons (h1 : JS X n st t) (h2 : JSs X n rest u) : JSs X n (st :: rest) (sSeq t u) := PSs.imp (pss_cons h1 h2) fun De σ H ⟨w, ρ, S, D', st, h, k⟩ =>
  ⟨w, ρ, S, { D' with nx := u D' }, st, h, ⟨fun w1 ρ1 S1 σ1 H1 s1 st1 q => ⟨w1, ρ1, S1, D', st1, q, k.step s1⟩, k.rt, k.bk, k.ct, k.ex⟩⟩
theorem js_pass : JS X n (.Pass pos) sNext := PS.imp ps_pass fun De σ H ⟨w, ρ, S, D', st, h, k⟩ => k.nx w ρ S σ H Stp.refl st h
def sBreak : AS := fun De ρ S => De.bk ρ S
def sCont : AS := fun De ρ S => De.ct ρ S
theorem js_break : JS X n (.Break pos) sBreak := PS.imp ps_break fun De σ H ⟨w, ρ, S, D', st, h, k⟩ => k.bk w ρ S σ H Stp.refl st h
theorem js_continue : JS X n (.Continue pos) sCont := PS.imp ps_continue fun De σ H ⟨w, ρ, S, D', st, h, k⟩ => k.ct w ρ S σ H Stp.refl st h
def sDrop (ta : AM D) : AS := sBind ta fun _ => sNext
theorem js_expr (he : JE X n e ta) (hs : swapsWith e none pos.line X.env = pure false := by rfl) : JS X n (.Expr e pos) (sDrop ta) := PS.imp (ps_expr he hs) fun De σ H h => by
  refine (upS.bind h).mono ?_
  rintro v H1 ⟨w1, ρ, S1, D', d, st1, r1, hf, k⟩
  exact k.nx w1 ρ S1 σ H1 Stp.refl st1 hf
def sRet (ta : AM D) : AS := sBind ta fun d De _ S => De.rt d S
theorem js_ret (he : JE X n e ta) : JS X n (.Return (some e) pos) (sRet ta) := PS.imp (ps_ret he) fun De σ H h => by
  refine (upS.bind h).mono ?_
  rintro v H1 ⟨w1, ρ, S1, D', d, st1, r1, hf, k⟩
  exact k.rt w1 S1 H1 d v Stp.refl st1.wf r1 hf
def sRetN : AS := fun De _ S => De.rt .non S
theorem js_retN : JS X n (.Return none pos) sRetN := PS.imp ps_retN fun De σ H ⟨w, ρ, S, D', st, h, k⟩ => k.rt w S H .non .non Stp.refl st.wf .non h
def sIf (c : AM Bool) (t u : AS) : AS := sBind c fun b De ρ S => if b = true then t De ρ S else u De ρ S
theorem js_if {c : Expr} {a b : List Stmt} (hc : JT X n c tc) (ha : JSs X n a t) (hb : JSs X n b u) : JS X n (.If c a b pos) (sIf tc t u) := PS.imp (ps_if hc ha hb) fun De σ H h => by
  refine (upS.bind h).mono ?_
  rintro v H1 ⟨w1, ρ, S1, D', d, st1, rfl, hf, k⟩
  cases d with
  | true => rw [if_pos rfl] at hf ⊢; exact ⟨w1, ρ, S1, D', st1, hf, k⟩
  | false => rw [if_neg Bool.false_ne_true] at hf ⊢; exact ⟨w1, ρ, S1, D', st1, hf, k⟩
/-- code that is never come to -/
def sNever : AS := fun _ _ _ => False
theorem js_never : JS X n st sNever := PS.imp ps_never fun _ _ _ ⟨_, _, _, _, _, h, _⟩ => h
theorem jss_never {sts : List Stmt} : JSs X n sts sNever := PSs.imp pss_never fun _ _ _ ⟨_, _, _, _, _, h, _⟩ => h
/-! stores -/
def sSet (ta : AM D) (i : Nat) : AS := sBind ta fun d De ρ S => De.nx (ρ.set i (some d)) S
theorem js_set {i : Nat} {x : Str} (hN : X.N.Nodup) (hi : X.N[i]? = some x) (hx : Loc X.env.scope x) (he : JE X n e ta) (hs : swapsWith e (some (.Name x pos')) pos.line X.env = pure false := by rfl) (hf : X.fn x = true ∨ X.env.scope.names.lookup x = some .local := by first | exact .inl rfl | exact .inr rfl | assumption) :
    JS X n (.Assign [.Name x pos'] e pos) (sSet ta i) := PS.imp (ps_set hN hi hx he hs hf) fun De σ H h => by
  refine (upS.bind h).mono ?_
  rintro v H1 ⟨w1, ρ, S1, D', d, st1, r1, hf, k⟩
  exact k.nx w1 _ S1 _ H1 Stp.refl ⟨st1.wf, st1.ev.set r1, st1.gx⟩ hf
theorem up_setLc {i : Nat} {tt : TE} (hk : ∀ σ H Q, upE n ta σ H Q → tt σ H Q) {De : Ends} {σ : L2.St} {H : Hp} (h : upS n (sSet ta i) De σ H) : tAsg tt (gName i) De σ H := hk _ _ _ ((upS.bind h).mono (by
  rintro v H1 ⟨w1, ρ, S1, D', d, st1, r1, hf, k⟩
  exact k.nx w1 _ S1 _ H1 Stp.refl ⟨st1.wf, st1.ev.set r1, st1.gx⟩ hf))
section
variable {i : Nat} {y : Str} {py : Pos} {elt tg iter : Expr} {ifs : List Expr} {scope : Scope} {own : List (Str × Nat)} {spos : Pos} {ti : AM (List D)} {g : TG} {gD : AG} {tt : AM Bool} {te : AM D}
theorem js_setLc (hc : X.calm = true) (hN : X.N.Nodup) (hy : X.N[i]? = some y) (hyl : X.env.scope.names.lookup y = some .local)
    (hsw : swapsWith (.ListComp elt [⟨tg, iter, ifs, 0⟩] scope pos) (some (.Name y py)) spos.line X.env = pure true) (gl : GL n.c g gD (own.map (·.2))) (hi : JI X n tg iter ti) (ok : BlkOk X.N X.env.scope scope own)
    (hg : ∀ (s : Shared) (H : Hp) (C : Addr) (cl : List (Str × Addr)) (fp : List Addr), PG (X.blk s H scope (compEnvC scope cl C X.env) fp) tg g) (ht : ∀ (s : Shared) (H : Hp) (C : Addr) (cl : List (Str × Addr)) (fp : List Addr), PTs (X.blk s H scope (compEnvC scope cl C X.env) fp) ifs (upT n.no tt))
    (he : ∀ (s : Shared) (H : Hp) (C : Addr) (cl : List (Str × Addr)) (fp : List Addr), JE (X.blk s H scope (compEnvC scope cl C X.env) fp) n.no elt te) (hs : ∀ x, foldedSetIterable iter X.env x = pure x := by intro _; rfl) :
    JS X n (.Assign [.Name y py] (.ListComp elt [⟨tg, iter, ifs, 0⟩] scope pos) spos) (sSet (aLc ti gD tt te (own.map (·.2))) i) := PS.imp (ps_setLc hc hN hy hyl hsw hi ok hg ht he hs) fun De σ H h => up_setLc (fun _ _ _ q => up_lc gl q) h
theorem js_setLcM (hc : X.calm = true) (hN : X.N.Nodup) (hy : X.N[i]? = some y) (hyl : X.env.scope.names.lookup y = some .local)
    (hsw : swapsWith (.ListComp elt [⟨tg, iter, ifs, 0⟩] scope pos) (some (.Name y py)) spos.line X.env = pure true) (gl : GL n.c g gD (own.map (·.2))) (hi : JI X n tg iter ti) (ok : BlkOk X.N X.env.scope scope own)
    (hg : ∀ (s : Shared) (H : Hp) (C : Addr) (cl : List (Str × Addr)) (fp : List Addr), PG (X.blk s H scope (compEnvC scope cl C X.env) fp) tg g) (ht : ∀ (s : Shared) (H : Hp) (C : Addr) (cl : List (Str × Addr)) (fp : List Addr), PTs (X.blk s H scope (compEnvC scope cl C X.env) fp) ifs (upT n.no tt))
    (he : ∀ (s : Shared) (H : Hp) (C : Addr) (cl : List (Str × Addr)) (fp : List Addr), JE (X.blk s H scope (compEnvC scope cl C X.env) fp) n.no elt te) (hs : ∀ x, foldedSetIterable iter X.env x = pure x := by intro _; rfl) :
    JS X n (.Assign [.Name y py] (.ListComp elt [⟨tg, iter, ifs, 0⟩] scope pos) spos) (sSet (aLcM ti gD tt te (own.map (·.2))) i) := PS.imp (ps_setLc hc hN hy hyl hsw hi ok hg ht he hs) fun De σ H h => up_setLc (fun _ _ _ q => up_lcM gl q) h
end
/-- a, b, .. = e -/
def sUn (ta : AM D) (g : AG) : AS := sBind ta fun d De ρ S => g d ρ fun ρ1 => De.nx ρ1 S
theorem js_un {tg : Expr} {g : TG} {gD : AG} {vs : List Nat} (gl : GL n.c g gD vs) (he : JE X n e ta) (hg : PG X tg g) (hs : swapsWithSole [tg] e pos.line X.env = pure false := by rfl) (hw : swappedStores [tg] e X.env = pure none := by rfl)
    (h1 : (assignEach [tg] X.env).map (·.2) = [assign tg X.env] := by rfl) : JS X n (.Assign [tg] e pos) (sUn ta gD) := PS.imp (ps_asg he hg hs hw h1) fun De σ H h => by
  refine (upS.bind h).mono ?_
  rintro v H1 ⟨w1, ρ, S1, D', d, st1, r1, hf, k⟩
  exact gl n.g w1 ρ S1 σ H1 d v _ _ st1 r1 hf fun ρ' σ' st' _ q => k.nx w1 ρ' S1 σ' H1 Stp.refl st' q
/-- a, b = x, y -/
def sPar (i j : Nat) (t : AM (List D)) : AS := sBind t fun ds De ρ S => opt (two2 ds) fun p => De.nx ((ρ.set i (some p.1)).set j (some p.2)) S
theorem js_par {i j : Nat} {x y : Str} {a b : Expr} {ta : AM (List D)} {px py pt : Pos} {kt k2 pt2} (hc : X.calm = true) (hN : X.N.Nodup) (hi : X.N[i]? = some x) (hj : X.N[j]? = some y) (hij : i ≠ j)
    (hx : X.env.scope.names.lookup x = some .local) (hy : X.env.scope.names.lookup y = some .local) (ha : JA X n [a, b] ta)
    (hw : swappedStores [.Tuple [.Name x px, .Name y py] kt pt] (.Tuple [a, b] k2 pt2) X.env = pure (some [x, y]))
    (hs : swapsWithSole [.Tuple [.Name x px, .Name y py] kt pt] (.Tuple [a, b] k2 pt2) pos.line X.env = pure false := by rfl) :
    JS X n (.Assign [.Tuple [.Name x px, .Name y py] kt pt] (.Tuple [a, b] k2 pt2) pos) (sPar i j ta) := PS.imp (ps_par hc hN hi hj hij hx hy ha hw hs) fun De σ H h => by
  refine (upS.bind h).mono ?_
  rintro vs H1 ⟨w1, ρ, S1, D', ds, st1, r1, hf, k⟩
  obtain ⟨p, e1, q⟩ := opt_some hf
  obtain ⟨v, v', rfl, rv, rw'⟩ := two_rel e1 r1
  exact ⟨v, v', rfl, k.nx w1 _ S1 _ H1 Stp.refl ⟨st1.wf, (st1.ev.set rv).set rw', st1.gx⟩ q⟩
/-! stores into the row of objects -/
def refOf : D → Option Nat
  | .ref m => some m
  | _ => none
theorem refOf_rel {c : Cg} {w : Wd} {N : Nat} {H : Hp} {d : D} {v : V} {m : Nat} (h : refOf d = some m) (r : Rel c w N H d v) : d = .ref m ∧ m < N ∧ v = .ref (w.i m) := by
  cases d <;> simp [refOf] at h
  subst h
  cases r with
  | ref hm => exact ⟨rfl, hm, rfl⟩
def lstAt (S : Sto) (m : Nat) : Option (List D) := match S[m]? with
  | some (.lst xs) => some xs
  | _ => none
def dctAt (S : Sto) (m : Nat) : Option (List (Str × D)) := match S[m]? with
  | some (.dct xs) => some xs
  | _ => none
def insAt (S : Sto) (m : Nat) (C : Str) : Option (List (Str × D)) := match S[m]? with
  | some (.ins C' fs) => if C' = C then some fs else none
  | _ => none
theorem lstAt_rel {c : Cg} {w : Wd} {S : Sto} {H : Hp} {m : Nat} {xs : List D} (f : Wf c w S H) (h : lstAt S m = some xs) : S[m]? = some (.lst xs) ∧ m < S.length ∧ ∃ vs, H (w.i m) = some (.lst vs) ∧ RelL c w S.length H xs vs := by
  unfold lstAt at h
  cases e : S[m]? with
  | none => rw [e] at h; cases h
  | some o =>
    rw [e] at h
    cases o with
    | lst ys => cases h; exact ⟨rfl, (List.getElem?_eq_some_iff.mp e).1, f.obj m _ e⟩
    | ins C fs => cases h
    | dct kvs => cases h
theorem dctAt_rel {c : Cg} {w : Wd} {S : Sto} {H : Hp} {m : Nat} {xs : List (Str × D)} (f : Wf c w S H) (h : dctAt S m = some xs) : S[m]? = some (.dct xs) ∧ m < S.length ∧ ∃ kvs, H (w.i m) = some (.dK kvs) ∧ kvs.map (·.1) = xs.map (fun p => Sum.inr p.1) ∧ RelL c w S.length H (xs.map (·.2)) (kvs.map (·.2)) := by
  unfold dctAt at h
  cases e : S[m]? with
  | none => rw [e] at h; cases h
  | some o =>
    rw [e] at h
    cases o with
    | lst ys => cases h
    | ins C fs => cases h
    | dct kvs => cases h; exact ⟨rfl, (List.getElem?_eq_some_iff.mp e).1, f.obj m _ e⟩
theorem insAt_rel {c : Cg} {w : Wd} {S : Sto} {H : Hp} {m : Nat} {C : Str} {fs : List (Str × D)} (f : Wf c w S H) (h : insAt S m C = some fs) : S[m]? = some (.ins C fs) ∧ m < S.length ∧ ∃ dx fs', H (w.i m) = some (.ins (c.cA C) dx fs') ∧ fs'.map (·.1) = fs.map (·.1) ∧ RelL c w S.length H (fs.map (·.2)) (fs'.map (·.2)) := by
  unfold insAt at h
  cases e : S[m]? with
  | none => rw [e] at h; cases h
  | some o =>
    rw [e] at h
    cases o with
    | lst ys => cases h
    | dct kvs => cases h
    | ins C' fs' =>
      simp only at h
      split at h
      · rename_i z
        cases h
        subst z
        exact ⟨rfl, (List.getElem?_eq_some_iff.mp e).1, f.obj m _ e⟩
      · cases h
/-- a list of the row is written -/
theorem wr_lst {c : Cg} {w : Wd} {S : Sto} {H : Hp} {m : Nat} {ys : List D} {us : List V} (f : Wf c w S H) (hm : m < S.length) (r : RelL c w S.length H ys us) : Stp w S.length H w (S.set m (.lst ys)).length (upd H (w.i m) (.lst us)) ∧ Wf c w (S.set m (.lst ys)) (upd H (w.i m) (.lst us)) := by
  have s := Stp.set f hm (.lst us)
  exact ⟨by rw [List.length_set]; exact s, f.set hm (o := .lst ys) ⟨us, upd_same, r.stp s⟩⟩
theorem wr_ins {c : Cg} {w : Wd} {S : Sto} {H : Hp} {m : Nat} {C : Str} {dx : Addr} {fs : List (Str × D)} {fs' : List (Str × V)} (f : Wf c w S H) (hm : m < S.length) (hn : fs'.map (·.1) = fs.map (·.1)) (r : RelL c w S.length H (fs.map (·.2)) (fs'.map (·.2))) :
    Stp w S.length H w (S.set m (.ins C fs)).length (upd H (w.i m) (.ins (c.cA C) dx fs')) ∧ Wf c w (S.set m (.ins C fs)) (upd H (w.i m) (.ins (c.cA C) dx fs')) := by
  have s := Stp.set f hm (.ins (c.cA C) dx fs')
  exact ⟨by rw [List.length_set]; exact s, f.set hm (o := .ins C fs) ⟨dx, fs', upd_same, hn, r.stp s⟩⟩
theorem wr_dct {c : Cg} {w : Wd} {S : Sto} {H : Hp} {m : Nat} {fs : List (Str × D)} {fs' : List (Key × V)} (f : Wf c w S H) (hm : m < S.length) (hn : fs'.map (·.1) = fs.map (fun p => Sum.inr p.1)) (r : RelL c w S.length H (fs.map (·.2)) (fs'.map (·.2))) :
    Stp w S.length H w (S.set m (.dct fs)).length (upd H (w.i m) (.dK fs')) ∧ Wf c w (S.set m (.dct fs)) (upd H (w.i m) (.dK fs')) := by
  have s := Stp.set f hm (.dK fs')
  exact ⟨by rw [List.length_set]; exact s, f.set hm (o := .dct fs) ⟨fs', upd_same, hn, r.stp s⟩⟩
/-- xs[i] = e -/
def sPutL (tv ta tb : AM D) : AS := sBind tv fun v => sBind ta fun d => sBind tb fun i => fun De ρ S => opt (refOf d) fun m => opt (lstAt S m) fun xs => opt (asI i) fun k => opt (ixN xs.length k) fun j => De.nx ρ (S.set m (.lst (xs.set j v)))
theorem js_putL {ie : Expr} (ho : JE X n o ta) (hi : JE X n ie tb) (hv : JE X n e tv)
    (ha : ∀ v, assign (.Subscript o ie pos') X.env v = (do
      let ov ← holding [v] (eval o X.env)
      let iv ← holding [v, ov] (eval ie X.env)
      standAt pos'
      holding [v, ov, iv] (setItem ov iv v)
      release [v, ov, iv] []) := by intro _; rfl)
    (hs : swapsWithSole [.Subscript o ie pos'] e pos.line X.env = pure false := by rfl) (hw : swappedStores [.Subscript o ie pos'] e X.env = pure none := by rfl)
    (h1 : (assignEach [.Subscript o ie pos'] X.env).map (·.2) = [assign (.Subscript o ie pos') X.env] := by rfl) : JS X n (.Assign [.Subscript o ie pos'] e pos) (sPutL tv ta tb) := PS.imp (ps_asg hv (pg_sub ho hi set_list ha) hs hw h1) fun De σ H h => by
  obtain ⟨w, ρ, S, D', st, h, k⟩ := h
  refine (sW.bind st h k).mono ?_
  rintro v H1 ⟨w1, S1, vd, st1, _, r1, h1, k1⟩
  refine (sW.bind st1 h1 k1).mono ?_
  rintro ov H2 ⟨w2, S2, od, st2, s2, r2, h2, k2⟩
  refine (sW.bind st2 h2 k2).mono ?_
  rintro iv H3 ⟨w3, S3, id, st3, s3, r3, h3, k3⟩
  obtain ⟨m, e1, h3⟩ := opt_some h3
  obtain ⟨xs, e2, h3⟩ := opt_some h3
  obtain ⟨j, e3, h3⟩ := opt_some h3
  obtain ⟨jj, e4, q⟩ := opt_some h3
  obtain ⟨rfl, hm, rfl⟩ := refOf_rel e1 (r2.stp s3)
  obtain ⟨_, rfl⟩ := asI_rel e3 r3
  obtain ⟨_, _, us, hu, hl⟩ := lstAt_rel st3.wf e2
  obtain ⟨s4, f4⟩ := wr_lst st3.wf hm (hl.set jj ((r1.stp s2).stp s3))
  exact ⟨_, us, j, jj, rfl, rfl, hu, by rw [← hl.len]; exact e4, k3.nx w3 ρ _ σ _ s4 (st3.step s4 f4) q⟩
/-- d['k'] = e -/
def putS (fs : List (Str × D)) (k : Str) (v : D) : List (Str × D) := if (fs.any fun p => decide (p.1 = k)) = true then fs.map (fun p => if p.1 = k then (p.1, v) else p) else fs ++ [(k, v)]
def sPutD (tv ta tb : AM D) : AS := sBind tv fun v => sBind ta fun d => sBind tb fun i => fun De ρ S => opt (refOf d) fun m => opt (dctAt S m) fun xs => opt (asS i) fun k => xs.length < big ∧ De.nx ρ (S.set m (.dct (putS xs k v)))
theorem putS_rel {c : Cg} {w : Wd} {N : Nat} {H : Hp} {k : Str} {d : D} {v : V} (rv : Rel c w N H d v) : ∀ {fs : List (Str × D)} {kvs : List (Key × V)}, kvs.map (·.1) = fs.map (fun p => Sum.inr p.1) → RelL c w N H (fs.map (·.2)) (kvs.map (·.2)) →
    ((kvs.any fun kv => decide (kv.1 = Sum.inr k)) = fs.any fun p => decide (p.1 = k)) ∧
    (kvs.map (fun kv => if kv.1 = Sum.inr k then (kv.1, v) else kv)).map (·.1) = (fs.map (fun p => if p.1 = k then (p.1, d) else p)).map (fun p => (Sum.inr p.1 : Key)) ∧
    RelL c w N H ((fs.map (fun p => if p.1 = k then (p.1, d) else p)).map (·.2)) ((kvs.map (fun kv => if kv.1 = Sum.inr k then (kv.1, v) else kv)).map (·.2))
  | [], [], _, _ => ⟨rfl, rfl, .nil⟩
  | [], _ :: _, h, _ => by simp at h
  | _ :: _, [], h, _ => by simp at h
  | (a, x) :: fs, (b, y) :: kvs, h, r => by
    simp only [List.map_cons, List.cons.injEq] at h
    obtain ⟨rfl, h⟩ := h
    simp only [List.map_cons] at r
    cases r with
    | cons r rs =>
      obtain ⟨i1, i2, i3⟩ := putS_rel rv h rs
      have e : ((Sum.inr a : Key) = Sum.inr k) ↔ a = k := ⟨fun z => Sum.inr.inj z, fun z => by rw [z]⟩
      refine ⟨by simp only [List.any_cons, i1]; congr 1; simp [e], ?_, ?_⟩
      · simp only [List.map_cons]
        rw [i2]
        by_cases z : a = k
        · rw [if_pos (e.mpr z), if_pos z]
        · rw [if_neg (fun q => z (e.mp q)), if_neg z]
      · simp only [List.map_cons]
        by_cases z : a = k
        · rw [if_pos (e.mpr z), if_pos z]; exact .cons rv i3
        · rw [if_neg (fun q => z (e.mp q)), if_neg z]; exact .cons r i3
theorem putK_rel {c : Cg} {w : Wd} {N : Nat} {H : Hp} {k : Str} {d : D} {v : V} (rv : Rel c w N H d v) {fs : List (Str × D)} {kvs : List (Key × V)} (h : kvs.map (·.1) = fs.map (fun p => Sum.inr p.1)) (r : RelL c w N H (fs.map (·.2)) (kvs.map (·.2))) :
    (putK kvs (Sum.inr k) v).map (·.1) = (putS fs k d).map (fun p => (Sum.inr p.1 : Key)) ∧ RelL c w N H ((putS fs k d).map (·.2)) ((putK kvs (Sum.inr k) v).map (·.2)) := by
  obtain ⟨h1, h2, h3⟩ := putS_rel (k := k) rv h r
  unfold putK putS
  rw [h1]
  split
  · exact ⟨h2, h3⟩
  · simp only [List.map_append, List.map_cons, List.map_nil]
    exact ⟨by rw [h], r.append (.cons rv .nil)⟩
theorem js_putD {ie : Expr} (hu : X.A.units + 1 < cLine) (ho : JE X n o ta) (hi : JE X n ie tb) (hv : JE X n e tv) (hs : swapsWith e (some (.Subscript o ie pos')) pos.line X.env = pure false := by rfl) :
    JS X n (.Assign [.Subscript o ie pos'] e pos) (sPutD tv ta tb) := PS.imp (ps_dput hu ho hi hv hs) fun De σ H h => by
  obtain ⟨w, ρ, S, D', st, h, k⟩ := h
  refine (sW.bind st h k).mono ?_
  rintro v H1 ⟨w1, S1, vd, st1, _, r1, h1, k1⟩
  refine (sW.bind st1 h1 k1).mono ?_
  rintro ov H2 ⟨w2, S2, od, st2, s2, r2, h2, k2⟩
  refine (sW.bind st2 h2 k2).mono ?_
  rintro iv H3 ⟨w3, S3, id, st3, s3, r3, h3, k3⟩
  obtain ⟨m, e1, h3⟩ := opt_some h3
  obtain ⟨xs, e2, h3⟩ := opt_some h3
  obtain ⟨kk, e3, hz, q⟩ := opt_some h3
  obtain ⟨rfl, hm, rfl⟩ := refOf_rel e1 (r2.stp s3)
  obtain ⟨_, rfl⟩ := asS_rel e3 r3
  obtain ⟨_, _, kvs, hu, hn, hl⟩ := dctAt_rel st3.wf e2
  obtain ⟨p1, p2⟩ := putK_rel (k := kk) ((r1.stp s2).stp s3) hn hl
  obtain ⟨s4, f4⟩ := wr_dct st3.wf hm p1 p2
  have len : kvs.length = xs.length := by have := congrArg List.length hn; simpa using this
  exact ⟨_, _, rfl, DPut.k (k := Sum.inr kk) hu (by rw [len]; exact big_lt hz), k3.nx w3 ρ _ σ _ s4 (st3.step s4 f4) q⟩
/-- o.f = e -/
def putFD (f : Str) (v : D) : List (Str × D) → List (Str × D)
  | [] => [(f, v)]
  | (k, x) :: r => if k = f then (k, v) :: r else (k, x) :: putFD f v r
end
end A

set_option Elab.async false
set_option linter.all false
set_option maxRecDepth 100000
set_option maxHeartbeats 4000000
namespace A
open PySem PySem.Spec PyProof.Rows L2
/-! ### attributes are written -/
theorem putF_rel {c : Cg} {w : Wd} {N : Nat} {H : Hp} {f : Str} {d : D} {v : V} (rv : Rel c w N H d v) : ∀ {fs : List (Str × D)} {fs' : List (Str × V)}, fs'.map (·.1) = fs.map (·.1) → RelL c w N H (fs.map (·.2)) (fs'.map (·.2)) →
    (putF f v fs').map (·.1) = (putFD f d fs).map (·.1) ∧ RelL c w N H ((putFD f d fs).map (·.2)) ((putF f v fs').map (·.2))
  | [], [], _, _ => ⟨rfl, .cons rv .nil⟩
  | [], _ :: _, h, _ => by simp at h
  | _ :: _, [], h, _ => by simp at h
  | (a, x) :: fs, (b, y) :: fs', h, r => by
    simp only [List.map_cons, List.cons.injEq] at h
    obtain ⟨rfl, h⟩ := h
    simp only [List.map_cons] at r
    cases r with
    | cons r rs =>
      obtain ⟨i1, i2⟩ := putF_rel rv h rs
      unfold putF putFD
      by_cases z : b = f
      · rw [if_pos z, if_pos z]
        simp only [List.map_cons]
        exact ⟨by rw [h], .cons rv rs⟩
      · rw [if_neg z, if_neg z]
        simp only [List.map_cons]
        exact ⟨by rw [i1], .cons r i2⟩
section
variable {X : Cx} {n : Cn} {st : Stmt} {rest body : List Stmt} {t u : AS} {e o value : Expr} {ta tb tv : AM D} {tc : AM Bool} {pos pos' tpos apos cpos : Pos} {C f : Str}
def sFldD (C f : Str) (ta tv : AM D) : AS := sBind tv fun v => sBind ta fun d => fun De ρ S => opt (refOf d) fun m => opt (insAt S m C) fun fs => fs.length < 100 ∧ De.nx ρ (S.set m (.ins C (putFD f v fs)))
theorem js_fld (T : FldOk n.c C f) (ha : JE X n o ta) (hv : JE X n value tv) (hs : swapsWith value (some (.Attribute o f pos')) pos.line X.env = pure false) (hK : X.K = n.c.K := by rfl) : JS X n (.Assign [.Attribute o f pos'] value pos) (sFldD C f ta tv) :=
  PS.imp (ps_fld ha hv hs) fun De σ H h => by
  obtain ⟨w, ρ, S, D', st, h, k⟩ := h
  refine (sW.bind st h k).mono ?_
  rintro v H1 ⟨w1, S1, vd, st1, _, r1, h1, k1⟩
  refine (sW.bind st1 h1 k1).mono ?_
  rintro ov H2 ⟨w2, S2, od, st2, s2, r2, h2, k2⟩
  obtain ⟨m, e1, h2⟩ := opt_some h2
  obtain ⟨fs, e2, hz, q⟩ := opt_some h2
  obtain ⟨rfl, hm, rfl⟩ := refOf_rel e1 r2
  obtain ⟨_, _, dx, fs', hu, hn, hl⟩ := insAt_rel st2.wf e2
  obtain ⟨p1, p2⟩ := putF_rel (f := f) (r1.stp s2) hn hl
  obtain ⟨s4, f4⟩ := wr_ins (C := C) (dx := dx) st2.wf hm p1 p2
  have len : fs'.length = fs.length := by have := congrArg List.length hn; simpa using this
  rw [hK]
  exact ⟨_, _, dx, fs', rfl, hu, T.1, T.2, by omega, k2.nx w2 ρ _ σ _ s4 (st2.step s4 f4) q⟩
/-- o.f += e (ints) -/
def sFldAugD (C f : Str) (g : Int → Int → Int) (ta tv : AM D) : AS := sBind ta fun d => fun De ρ S => opt (refOf d) fun m => opt (insAt S m C) fun fs => opt (fs.lookup f) fun x => opt (asI x) fun i =>
  sBind tv (fun y => fun De ρ S => opt (asI y) fun j => opt (insAt S m C) fun fs => fs.length < 100 ∧ De.nx ρ (S.set m (.ins C (putFD f (.int (g i j)) fs)))) De ρ S
theorem js_fldAdd (T : FldOk n.c C f) (ha : JE X n o ta) (hv : JE X n value tv) (hK : X.K = n.c.K := by rfl) : JS X n (.AugAssign (.Attribute o f tpos) .Add value pos) (sFldAugD C f (fun i j => i + j) ta tv) :=
  PS.imp (ps_fldaug (rd := ipI fun i j => i + j) ha hv ip_add) fun De σ H h => by
  obtain ⟨w, ρ, S, D', st, h, k⟩ := h
  refine (sW.bind st h k).mono ?_
  rintro ov H1 ⟨w1, S1, od, st1, _, r1, h1, k1⟩
  obtain ⟨m, e1, ha⟩ := opt_some h1
  obtain ⟨fs, e2, hb⟩ := opt_some ha
  obtain ⟨x, e3, hc⟩ := opt_some hb
  obtain ⟨i, e4, hd⟩ := opt_some hc
  obtain ⟨rfl, hm, rfl⟩ := refOf_rel e1 r1
  obtain ⟨_, _, dx, fs', hu, hn, hl⟩ := insAt_rel st1.wf e2
  obtain ⟨v, hv1, rv⟩ := (lookup_rel hn hl).2 x e3
  obtain ⟨rfl, rfl⟩ := asI_rel e4 rv
  rw [hK]
  refine ⟨_, _, dx, fs', _, rfl, hu, T.1, T.2, hv1, (sW.bind st1 hd k1).mono ?_⟩
  rintro yv H2 ⟨w2, S2, yd, st2, s2, r2, h2, k2⟩
  obtain ⟨j, e5, h2⟩ := opt_some h2
  obtain ⟨fs2, e6, hz, q⟩ := opt_some h2
  obtain ⟨rfl, rfl⟩ := asI_rel e5 r2
  obtain ⟨_, hm2, dx2, fs2', hu2, hn2, hl2⟩ := insAt_rel st2.wf e6
  obtain ⟨p1, p2⟩ := putF_rel (f := f) (Rel.int (c := n.c) (w := w2) (N := S2.length) (H := H2) (i + j)) hn2 hl2
  obtain ⟨s4, f4⟩ := wr_ins (C := C) (dx := dx2) st2.wf hm2 p1 p2
  have len : fs2'.length = fs2.length := by have := congrArg List.length hn2; simpa using this
  rw [s2.ids m hm] at hu2 s4 f4
  refine ⟨i, j, rfl, rfl, dx2, fs2', hu2, by omega, k2.nx w2 ρ _ σ _ s4 (st2.step s4 f4) q⟩
/-! ### dicts -/
def aDGet (ta tb : AM D) : AM D := aBind ta fun d => aBind tb fun i => fun _ S Q _ => opt (refOf d) fun m => opt (dctAt S m) fun kvs => opt (asS i) fun k => opt (kvs.lookup k) fun v => Q v S
theorem valV_rel {c : Cg} {w : Wd} {N : Nat} {H : Hp} {k : Str} : ∀ {fs : List (Str × D)} {kvs : List (Key × V)}, kvs.map (·.1) = fs.map (fun p => Sum.inr p.1) → RelL c w N H (fs.map (·.2)) (kvs.map (·.2)) → ∀ d, fs.lookup k = some d → ∃ v, valV kvs (Sum.inr k) = some v ∧ Rel c w N H d v
  | [], [], _, _, d, h => by simp at h
  | [], _ :: _, h, _, _, _ => by simp at h
  | _ :: _, [], h, _, _, _ => by simp at h
  | (a, x) :: fs, (b, y) :: kvs, h, r, d, hd => by
    simp only [List.map_cons, List.cons.injEq] at h
    obtain ⟨rfl, h⟩ := h
    simp only [List.map_cons] at r
    cases r with
    | cons r rs =>
      simp only [List.lookup_cons] at hd
      by_cases z : a = k
      · subst z
        simp at hd
        subst hd
        exact ⟨y, by simp [valV], r⟩
      · have zb : (k == a) = false := by simpa using fun q => z q.symm
        rw [zb] at hd
        obtain ⟨v, h1, h2⟩ := valV_rel h rs d hd
        refine ⟨v, ?_, h2⟩
        have zk : ¬ ((Sum.inr a : Key) = Sum.inr k) := fun q => z (Sum.inr.inj q)
        unfold valV at h1 ⊢
        rw [List.find?_cons_of_neg (by simpa using z)]
        exact h1
theorem j_dget {ie : Expr} (hu : X.A.units + 1 < cLine) (ho : JE X n o ta) (hi : JE X n ie tb) (hs : NoSl ie) : JE X n (.Subscript o ie pos) (aDGet ta tb) := PE.imp (pe_dget hu ho hi hs) fun σ H Q ⟨w, ρ, S, st, h⟩ => by
  refine (upW.bind st h).mono ?_
  rintro x H1 ⟨w1, S1, d, st1, _, r1, h1⟩
  refine (upW.bind st1 h1).mono ?_
  rintro y H2 ⟨w2, S2, i, st2, s2, r2, h2⟩
  refine h2.op fun Q' hf hq => ?_
  obtain ⟨m, e1, hf⟩ := opt_some hf
  obtain ⟨kvs, e2, hf⟩ := opt_some hf
  obtain ⟨k, e3, hf⟩ := opt_some hf
  obtain ⟨v, e4, q⟩ := opt_some hf
  obtain ⟨rfl, hm, rfl⟩ := refOf_rel e1 (r1.stp s2)
  obtain ⟨_, rfl⟩ := asS_rel e3 r2
  obtain ⟨_, _, kvs', hu', hn, hl⟩ := dctAt_rel st2.wf e2
  obtain ⟨u, hu2, ru⟩ := valV_rel hn hl v e4
  refine ⟨_, u, rfl, ?_, fin0 st2.wf hq ru q⟩
  have := DGet.k (k := Sum.inr k) hu'
  rw [hu2] at this
  exact this
/-- {'a': e, ..} -/
def aPairs : List (Str × AM D) → AM (List (Str × D))
  | [] => fun _ S Q _ => Q [] S
  | (k, t) :: r => aBind t fun v => aBind (aPairs r) fun ps => fun _ S Q _ => Q ((k, v) :: ps) S
/-! ### methods of lists -/
def isL (S : Sto) (d : D) : Option Nat := (refOf d).bind fun m => (lstAt S m).map fun _ => m
theorem isL_rel {w : Wd} {S : Sto} {H : Hp} {d : D} {v : V} {m : Nat} (f : Wf n.c w S H) (e : isL S d = some m) (r : Rel n.c w S.length H d v) (hK : X.K = n.c.K) : d = .ref m ∧ m < S.length ∧ v = .ref (w.i m) ∧ tyV X.K "list" v H := by
  unfold isL at e
  obtain ⟨m', e1, e2⟩ := Option.bind_eq_some_iff.mp e
  obtain ⟨xs, e3, e4⟩ := Option.map_eq_some_iff.mp e2
  subst e4
  obtain ⟨rfl, hm, rfl⟩ := refOf_rel e1 r
  obtain ⟨_, _, vs, hu, hl⟩ := lstAt_rel f e3
  exact ⟨rfl, hm, rfl, .inl ⟨rfl, vs, SqL.of hu⟩⟩
def aAppend (ta : AM D) (t : AM (List D)) : AM D := aBind ta fun d => fun ρ S Q E => opt (isL S d) fun m => aBind t (fun ds => fun _ S Q _ => opt (lstAt S m) fun xs => opt (one1 ds) fun y => xs.length < big ∧ Q .non (S.set m (.lst (xs ++ [y])))) ρ S Q E
def aExtend (ta : AM D) (t : AM (List D)) : AM D := aBind ta fun d => fun ρ S Q E => opt (isL S d) fun m => aBind t (fun ds => fun _ S Q _ => opt (lstAt S m) fun xs => opt (one1 ds) fun y => opt (lv S y) fun ys => xs.length + ys.length ≤ big ∧ Q .non (S.set m (.lst (xs ++ ys)))) ρ S Q E
def aPop (ta : AM D) : AM D := aBind ta fun d => fun _ S Q _ => opt (isL S d) fun m => opt (lstAt S m) fun xs => opt (xs[xs.length - 1]?) fun y => Q y (S.set m (.lst xs.dropLast))
theorem RelL.dropLast {c : Cg} {w : Wd} {N : Nat} {H : Hp} {ds : List D} {vs : List V} (h : RelL c w N H ds vs) : RelL c w N H ds.dropLast vs.dropLast := by
  rw [List.dropLast_eq_take, List.dropLast_eq_take, h.len]
  exact h.take _
variable {es : List Expr} {t : AM (List D)}
theorem j_append (ho : JE X n o ta) (ha : JA X n (e :: es) t) (hbase : attributeBase o "append" X.env (eval o X.env) = eval o X.env := by rfl)
    (hfew : ((backTo cpos (starEach (e :: es) X.env)).all (fun x => !x.1) && (backToKw cpos (keywordEach [] X.env)).all (fun x => x.1.isSome)
      && decide ((e :: es).length + ([] : List Keyword).length + (if ([] : List Keyword).isEmpty then 0 else 1) < 30)) = true := by rfl)
    (hline : (apos.endLine == cpos.line) = true := by rfl) (hs : starEach (e :: es) X.env = (false, eval e X.env) :: starEach es X.env := by rfl) (hplain : (backTo cpos (starEach es X.env)).any (·.1) = false := by rfl) (hK : X.K = n.c.K := by rfl) :
    JE X n (.Call (.Attribute o "append" apos) (e :: es) [] cpos) (aAppend ta t) :=
  PE.imp (pe_bm PySem.F.plainAttrs_list PySem.F.slot_list_append PySem.F.type_list_append mt_append ho ha hbase hfew hline hs hplain) fun σ H Q ⟨w, ρ, S, st, h⟩ => by
  refine (upW.bind st h).mono ?_
  rintro v H1 ⟨w1, S1, d, st1, _, r1, Q', E', ht, hq, he⟩
  obtain ⟨m, e1, hb⟩ := opt_some ht
  obtain ⟨rfl, hm, rfl, ty⟩ := isL_rel (X := X) st1.wf e1 r1 hK
  refine ⟨ty, ?_⟩
  have h1 : upW n.c n.W (Rel n.c) (aBind t (fun ds => fun _ S Q _ => opt (lstAt S m) fun xs => opt (one1 ds) fun y => xs.length < big ∧ Q .non (S.set m (.lst (xs ++ [y]))))) w1 ρ S1 σ H1 Q := ⟨Q', E', hb, hq, he⟩
  refine (upW.bind st1 h1).mono ?_
  rintro us H2 ⟨w2, S2, ds, st2, s2, r2, h2⟩
  refine h2.op fun Q' hf hq => ?_
  obtain ⟨xs, e2, hc⟩ := opt_some hf
  obtain ⟨y, e3, hz, q⟩ := opt_some hc
  obtain ⟨yv, rfl, ry⟩ := one_rel e3 r2
  obtain ⟨_, hm2, vs, hu, hl⟩ := lstAt_rel st2.wf e2
  obtain ⟨s4, f4⟩ := wr_lst st2.wf hm2 (hl.append (.cons ry .nil))
  rw [s2.ids m hm] at hu s4 f4
  exact ⟨_, vs, yv, rfl, rfl, hu, by rw [← hl.len]; exact big_lt hz, hq _ _ _ _ _ s4 f4 .non q⟩
theorem j_extend (ho : JE X n o ta) (ha : JA X n (e :: es) t) (hbase : attributeBase o "extend" X.env (eval o X.env) = eval o X.env := by rfl)
    (hfew : ((backTo cpos (starEach (e :: es) X.env)).all (fun x => !x.1) && (backToKw cpos (keywordEach [] X.env)).all (fun x => x.1.isSome)
      && decide ((e :: es).length + ([] : List Keyword).length + (if ([] : List Keyword).isEmpty then 0 else 1) < 30)) = true := by rfl)
    (hline : (apos.endLine == cpos.line) = true := by rfl) (hs : starEach (e :: es) X.env = (false, eval e X.env) :: starEach es X.env := by rfl) (hplain : (backTo cpos (starEach es X.env)).any (·.1) = false := by rfl) (hK : X.K = n.c.K := by rfl) :
    JE X n (.Call (.Attribute o "extend" apos) (e :: es) [] cpos) (aExtend ta t) :=
  PE.imp (pe_bm PySem.F.plainAttrs_list PySem.F.slot_list_extend PySem.F.type_list_extend mt_extend ho ha hbase hfew hline hs hplain) fun σ H Q ⟨w, ρ, S, st, h⟩ => by
  refine (upW.bind st h).mono ?_
  rintro v H1 ⟨w1, S1, d, st1, _, r1, Q', E', ht, hq, he⟩
  obtain ⟨m, e1, hb⟩ := opt_some ht
  obtain ⟨rfl, hm, rfl, ty⟩ := isL_rel (X := X) st1.wf e1 r1 hK
  refine ⟨ty, ?_⟩
  have h1 : upW n.c n.W (Rel n.c) (aBind t (fun ds => fun _ S Q _ => opt (lstAt S m) fun xs => opt (one1 ds) fun y => opt (lv S y) fun ys => xs.length + ys.length ≤ big ∧ Q .non (S.set m (.lst (xs ++ ys))))) w1 ρ S1 σ H1 Q := ⟨Q', E', hb, hq, he⟩
  refine (upW.bind st1 h1).mono ?_
  rintro us H2 ⟨w2, S2, ds, st2, s2, r2, h2⟩
  refine h2.op fun Q' hf hq => ?_
  obtain ⟨xs, e2, hc⟩ := opt_some hf
  obtain ⟨y, e3, hd⟩ := opt_some hc
  obtain ⟨ys, e4, hz, q⟩ := opt_some hd
  obtain ⟨yv, rfl, ry⟩ := one_rel e3 r2
  obtain ⟨b, zs, rfl, hb2, lb⟩ := lv_rel st2.wf e4 ry
  obtain ⟨_, hm2, vs, hu, hl⟩ := lstAt_rel st2.wf e2
  obtain ⟨s4, f4⟩ := wr_lst st2.wf hm2 (hl.append lb)
  rw [s2.ids m hm] at hu s4 f4
  exact ⟨_, b, vs, zs, rfl, rfl, hu, hb2, by rw [← hl.len, ← lb.len]; exact big_le hz, hq _ _ _ _ _ s4 f4 .non q⟩
theorem j_pop (ho : JE X n o ta) (hbase : attributeBase o "pop" X.env (eval o X.env) = eval o X.env := by rfl) (hline : (apos.endLine == cpos.line) = true := by rfl) (hK : X.K = n.c.K := by rfl) : JE X n (.Call (.Attribute o "pop" apos) [] [] cpos) (aPop ta) :=
  PE.imp (pe_bm0 PySem.F.plainAttrs_list PySem.F.slot_list_pop PySem.F.type_list_pop mt_pop ho hbase hline) fun σ H Q ⟨w, ρ, S, st, h⟩ => by
  refine (upW.bind st h).mono ?_
  rintro v H1 ⟨w1, S1, d, st1, _, r1, h1⟩
  refine h1.op fun Q' hf hq => ?_
  obtain ⟨m, e1, hb⟩ := opt_some hf
  obtain ⟨xs, e2, hc⟩ := opt_some hb
  obtain ⟨y, e3, q⟩ := opt_some hc
  obtain ⟨rfl, hm, rfl, ty⟩ := isL_rel (X := X) st1.wf e1 r1 hK
  obtain ⟨_, hm2, vs, hu, hl⟩ := lstAt_rel st1.wf e2
  obtain ⟨yv, ey, ry⟩ := hl.get e3
  obtain ⟨s4, f4⟩ := wr_lst st1.wf hm2 hl.dropLast
  rw [hl.len] at ey
  exact ⟨ty, _, vs, yv, rfl, rfl, hu, ey, hq _ _ _ _ _ s4 f4 (ry.stp (by rw [List.length_set] at s4; exact s4) |> fun z => by rw [List.length_set]; exact z) q⟩
end
/-! ### loops -/
section
variable {X : Cx} {n : Cn} {body : List Stmt} {tb : AS} {e tg iter : Expr} {ti : AM (List D)} {tc : AM Bool} {g : TG} {gD : AG} {vs : List Nat} {pos : Pos}
def forX (g : AG) (tb : AS) (De : EndsA) : List D → Ev → Sto → Prop
  | [] => De.nx
  | x :: r => fun ρ S => g x ρ fun ρ1 => tb { De with nx := forX g tb De r, ct := forX g tb De r, bk := De.nx } ρ1 S
def sFor (ti : AM (List D)) (g : AG) (tb : AS) : AS := sBind ti fun xs De ρ S => forX g tb De xs ρ S
theorem js_for (gl : GL n.c g gD vs) (hp : PassesOwn (model X.prog X.w) X.A X.env X.xe) (hc : X.calm = true) (hi : JI X n tg iter ti) (hg : PG X tg g) (hb : JSs X n body tb)
    (hs : ∀ x, foldedSetIterable iter X.env x = pure x := by intro _; rfl) : JS X n (.For tg iter body [] pos) (sFor ti gD tb) := PS.imp (ps_for hp hc hi hg hb hs) fun De σ H h => by
  obtain ⟨w, ρ, S, D', st, h, k⟩ := h
  rw [tFor_eq]
  refine ⟨w, ρ, S, st, _, _, h, fun w1 S1 H1 xs s1 f1 hx J wk => ?_, fun w1 S1 H1 x cls d s1 f1 rx hx => k.ex w1 ρ S1 σ H1 x cls d s1 (st.step s1 f1) rx hx⟩
  obtain ⟨G, Y, wlk, hG, hY⟩ := wk
  refine forB wlk (fun i σ2 H2 => ∃ w2 ρ2 S2, Stp w1 S1.length H1 w2 S2.length H2 ∧ Sta n.c n.g w2 ρ2 S2 σ2 H2 ∧ forX gD tb D' (xs.drop i) ρ2 S2) ⟨w1, ρ, S1, Stp.refl, st.step s1 f1, hx⟩ ?_ ?_ ?_
  · rintro i σ2 H2 hi ⟨w2, ρ2, S2, s2, st2, _⟩
    exact hG w2 _ H2 s2
  · rintro i x σ2 H2 H3 hi ⟨w2, ρ2, S2, s2, st2, hx⟩ y
    obtain ⟨sm, d, hd', rd⟩ := hY w2 _ H2 i x H3 s2 hi y
    have sH : Stp w2 S2.length H2 w2 S2.length H3 := Stp.same sm
    have hdr : xs.drop i = d :: xs.drop (i + 1) := by
      rw [List.drop_eq_getElem?_toList_append, hd']; rfl
    rw [hdr] at hx
    have st3 := st2.step sH (st2.wf.same sm)
    have s3 : Stp w1 S1.length H1 w2 S2.length H3 := s2.trans sH
    refine gl n.g w2 ρ2 S2 σ2 H3 d x _ _ st3 rd hx fun ρ4 σ4 st4 _ hx => ⟨w2, ρ4, S2, _, st4, hx, ?_⟩
    have k3 := k.step (s1.trans s3)
    have nx : ∀ w' ρ' S' σ' H', Stp w2 S2.length H3 w' S'.length H' → Sta n.c n.g w' ρ' S' σ' H' → forX gD tb D' (xs.drop (i + 1)) ρ' S' → ∃ w2 ρ2 S2, Stp w1 S1.length H1 w2 S2.length H' ∧ Sta n.c n.g w2 ρ2 S2 σ' H' ∧ forX gD tb D' (xs.drop (i + 1)) ρ2 S2 :=
      fun w' ρ' S' σ' H' s' st' q => ⟨w', ρ', S', s3.trans s', st', q⟩
    exact ⟨nx, k3.rt, k3.nx, nx, k3.ex⟩
  · rintro σ2 H2 ⟨w2, ρ2, S2, s2, st2, hx⟩
    rw [List.drop_length] at hx
    exact k.nx w2 ρ2 S2 σ2 H2 (s1.trans s2) st2 hx
def sWhile (c : AM Bool) (tb : AS) : AS := fun De ρ S => ∃ W : Nat → Ev → Sto → Prop, (∃ m, W m ρ S) ∧ ∀ m ρ S, W m ρ S →
  c ρ S (fun b S1 => if b = true then tb { De with nx := fun ρ' S' => ∃ m', m' < m ∧ W m' ρ' S', ct := fun ρ' S' => ∃ m', m' < m ∧ W m' ρ' S', bk := De.nx } ρ S1 else De.nx ρ S1) fun x S1 => De.ex x ρ S1
theorem js_while (hp : PassesOwn (model X.prog X.w) X.A X.env X.xe) (hc : JT X n e tc) (hb : JSs X n body tb) : JS X n (.While e body [] pos) (sWhile tc tb) := PS.imp (ps_while hp hc hb) fun De σ H h => by
  obtain ⟨w, ρ, S, D', st, ⟨W, ⟨m0, h0⟩, hW⟩, k⟩ := h
  refine ⟨fun m σ2 H2 => ∃ w2 ρ2 S2, Stp w S.length H w2 S2.length H2 ∧ Sta n.c n.g w2 ρ2 S2 σ2 H2 ∧ W m ρ2 S2, ⟨m0, w, ρ, S, Stp.refl, st, h0⟩, ?_⟩
  rintro m σ2 H2 ⟨w2, ρ2, S2, s2, st2, hx⟩
  have k2 := k.step s2
  refine ⟨w2, ρ2, S2, st2, _, _, hW m ρ2 S2 hx, ?_, fun w3 S3 H3 x cls d s3 f3 rx hx => k2.ex w3 ρ2 S3 σ2 H3 x cls d s3 (st2.step s3 f3) rx hx⟩
  rintro w3 S3 H3 b b' s3 f3 rfl hx
  have st3 := st2.step s3 f3
  have k3 := k2.step s3
  cases b with
  | false => rw [if_neg Bool.false_ne_true] at hx ⊢; exact k3.nx w3 ρ2 S3 σ2 H3 Stp.refl st3 hx
  | true =>
    rw [if_pos rfl] at hx ⊢
    refine ⟨fun σ' H' => ∃ w' ρ' S', Stp w S.length H w' S'.length H' ∧ Sta n.c n.g w' ρ' S' σ' H' ∧ ∃ m', m' < m ∧ W m' ρ' S', ?_, w3, ρ2, S3, _, st3, hx, ?_⟩
    · rintro σ' H' ⟨w', ρ', S', s', st', m', hm, q⟩
      exact ⟨m', hm, w', ρ', S', s', st', q⟩
    · have nx : ∀ w' ρ' S' σ' H', Stp w3 S3.length H3 w' S'.length H' → Sta n.c n.g w' ρ' S' σ' H' → (∃ m', m' < m ∧ W m' ρ' S') → ∃ w' ρ' S', Stp w S.length H w' S'.length H' ∧ Sta n.c n.g w' ρ' S' σ' H' ∧ ∃ m', m' < m ∧ W m' ρ' S' :=
        fun w' ρ' S' σ' H' s' st' q => ⟨w', ρ', S', (s2.trans s3).trans s', st', q⟩
      exact ⟨nx, k3.rt, k3.nx, nx, k3.ex⟩
end
/-! ### match upon texts -/
section
variable {X : Cx} {n : Cn} {body : List Stmt} {rest : List MatchCase} {p : Pattern} {f : Str → Bool} {t : AS} {r : D → AS} {e : Expr} {te : AM D} {pos : Pos}
def upC (n : Cn) (t : D → AS) : V → TS := fun v De σ H => ∃ w ρ S D' d, Sta n.c n.g w ρ S σ H ∧ Rel n.c w S.length H d v ∧ t d D' ρ S ∧ OkE n w S.length H D' De
abbrev JCs (X : Cx) (n : Cn) (cs : List MatchCase) (t : D → AS) : Prop := PCs X cs (upC n t)
theorem PCs.imp {cs : List MatchCase} {t t' : V → TS} (h : PCs X cs t) (k : ∀ x De σ H, t' x De σ H → t x De σ H) : PCs X cs t' := ⟨fun first pins s σ H De x u I r q => h.run first pins s σ H De x u I r (k x De σ H q)⟩
def cxNil : D → AS := fun _ => sNext
def cxIf (f : Str → Bool) (t : AS) (r : D → AS) : D → AS := fun d De ρ S => opt (asS d) fun y => if f y = true then t De ρ S else r d De ρ S
def cxAny (t : AS) : D → AS := fun _ => t
theorem jc_nil : JCs X n [] cxNil := PCs.imp pcs_nil fun x De σ H ⟨w, ρ, S, D', d, st, r, h, k⟩ => k.nx w ρ S σ H Stp.refl st h
theorem jc_cons (h1 : PPt X p f) (h2 : JSs X n body t) (h3 : JCs X n rest r) : JCs X n (⟨p, none, body⟩ :: rest) (cxIf f t r) := PCs.imp (pcs_cons h1 h2 h3) fun x De σ H ⟨w, ρ, S, D', d, st, rd, h, k⟩ => by
  obtain ⟨y, e1, q⟩ := opt_some h
  obtain ⟨rfl, rfl⟩ := asS_rel e1 rd
  refine ⟨y, rfl, ?_⟩
  split at q
  · rename_i z; rw [if_pos z]; exact ⟨w, ρ, S, D', st, q, k⟩
  · rename_i z; rw [if_neg z]; exact ⟨w, ρ, S, D', _, st, rd, q, k⟩
theorem jc_any {pos : Pos} (h2 : JSs X n body t) : JCs X n (⟨.MatchAs none none pos, none, body⟩ :: rest) (cxAny t) := PCs.imp (pcs_any h2) fun x De σ H ⟨w, ρ, S, D', d, st, rd, h, k⟩ => ⟨w, ρ, S, D', st, h, k⟩
def sMatch (te : AM D) (t : D → AS) : AS := sBind te t
theorem js_match {cs : List MatchCase} {t : D → AS} (he : JE X n e te) (h : JCs X n cs t) : JS X n (.Match e cs pos) (sMatch te t) := PS.imp (ps_match he h) fun De σ H h => by
  refine (upS.bind h).mono ?_
  rintro v H1 ⟨w1, ρ, S1, D', d, st1, r1, hf, k⟩
  exact ⟨w1, ρ, S1, D', d, st1, r1, hf, k⟩
end
end A

set_option Elab.async false
set_option linter.all false
set_option maxRecDepth 100000
set_option maxHeartbeats 4000000
/-! own errors of two fields: class E(F): def __init__(self, p, r): super().__init__(p); self.g = r, where F is an error of one field -/
namespace PySem
namespace OwnX
open PySem.W PySem.Calls PyProof.Rows PySem.HandSPX
def yA (pn rn : Str) (p1 p2 p3 : Pos) : Arguments := { posonlyargs := [], args := [{ arg := "self", annotation := none, pos := p1 }, { arg := pn, annotation := none, pos := p2 }, { arg := rn, annotation := none, pos := p3 }], vararg := none, kwonlyargs := [], kw_defaults := [], kwarg := none, defaults := [] }
def yB (g pn rn : Str) (a b c d e q a1 b1 c1 d1 : Pos) : List Stmt :=
  [.Expr (.Call (.Attribute (.Call (.Name "super" a) [] [] b) "__init__" c) [.Name pn d] [] e) q, .Assign [.Attribute (.Name "self" a1) g b1] (.Name rn c1) d1]
def yS (pn rn : Str) : Scope := { kind := .function, names := [(PySem.Str.ofString "self", .local), (pn, .local), (rn, .local), (PySem.Str.ofString "__class__", .free), (PySem.Str.ofString "super", .globalImplicit)], isGenerator := false, isCoroutine := false, more := [] }
structure Word2 (pn rn : Str) : Prop where
  bnd : ∀ (q : Str) (p1 p2 p3 : Pos) (bd : List Stmt) (doc pm : Value) (an : Option Addr) (cdv ct : Value) (cc : Addr) (u v r : Value), bindArgs (ksFn "__init__" q (yA pn rn p1 p2 p3) bd (yS pn rn) .none .none doc pm an cdv ct cc) ⟨[u, v, r], []⟩ = pure [((("self" : Str)), u), (pn, v), (rn, r)]
  kS : (yS pn rn).names.lookup ("super" : Str) = some .globalImplicit
  kC : (yS pn rn).names.lookup ("__class__" : Str) = some .free
  kF : (yS pn rn).names.lookup ("self" : Str) = some .local
  kP : (yS pn rn).names.lookup pn = some .local
  kR : (yS pn rn).names.lookup rn = some .local
  dbg : (pn == ("__debug__" : Str)) = false
  dbr : (rn == ("__debug__" : Str)) = false
  ne : pn ≠ ("self" : Str)
  nr : rn ≠ ("self" : Str)
  npr : pn ≠ rn
/-- what the written part says of an error class C of two fields; its __init__ (at fI) calls that of the class above (at f1), of one field f -/
structure Txt2 (P : Program) (K : Frag) (C D1 f1 fI : Addr) (q1 q f g pn1 pn rn : Str) : Prop where
  base : Txt P K C D1 f1 q1 f pn1
  fn : ∃ (oc : Value) (od : Option Addr) (doc pm : Value) (an : Option Addr) (cda cc : Addr) (ct : Value) (osl : Array (Option Value)) (p1 p2 p3 a b c d e q' a1 b1 c1 d1 : Pos),
    (c.endLine == e.line) = true ∧ K.lookup fI = some ⟨oc, od, .func (ksFn "__init__" q (yA pn rn p1 p2 p3) (yB g pn rn a b c d e q' a1 b1 c1 d1) (yS pn rn) .none .none doc pm an (.ref cda) ct cc), osl⟩ ∧ codeIn K (.ref cda) q = true ∧
    (∃ ccl cdd vs ccs file tf, K.lookup cda = some ⟨ccl, cdd, .fields vs, ccs⟩ ∧ vs[2]? = some (.str file tf) ∧ ((P.main.file : Str) == file) = true) ∧
    (∃ cl cld csl, K.lookup cc = some ⟨cl, cld, .cell (some (.ref C)), csl⟩)
  noN : findIn K (.ref C) g = some none
  subC : mroIn K C (.ref C) = some true
  sup : ks_superIn K C C "__init__" = some (some (.ref f1))
  tf1 : typeIn K (.ref f1) = some (.type "function")
  ff1 : fnIn K f1 = true
  wd : Word2 pn rn
  nfg : f ≠ g
/-- a made error of two fields -/
structure Made2 (h h' : Heap) (e C d : Addr) (f g : Str) (v r : Value) : Prop where
  keep : ∀ b o, h.get? b = some o → h'.get? b = some o
  new : h.objs.size ≤ e
  obj : ∃ oe vs, h'.get? e = some oe ∧ oe.cls = .ref C ∧ oe.dict = some d ∧ oe.data = .fields vs ∧ vs[1]? = some .none ∧ vs[2]? = some .none
  dbig : h.objs.size ≤ d
  dne : d ≠ e
  ns : h'.Ns1 d (fun y => if y = g then some r else if y = f then some v else none)
structure InitEnd2 (h h' : Heap) (x C dx t1 : Addr) (f g : Str) (v r : Value) : Prop where
  keep : ∀ b o, b ≠ x → h.get? b = some o → h'.get? b = some o
  obj : h'.get? x = some { cls := .ref C, dict := some dx, data := .fields #[.ref t1, .none, .none, .none, .bool false, .none] }
  dbig : h.objs.size ≤ dx
  dne : dx ≠ x
  ns : h'.Ns1 dx (fun y => if y = g then some r else if y = f then some v else none)
section
variable {P : Program} {w : World} {A : Around} {E : Value → Shared → Prop} {R : Result → Shared → Prop} {s : Shared} {K : Frag} {C D1 f1 fI : Addr} {q1 q f g pn1 pn rn : Str}
theorem xinit2 (T : Txt2 P K C D1 f1 fI q1 q f g pn1 pn rn) {x t0 : Addr} {v r : Value} {mg mb : Str → Option Value} (X : K.In s.heap) (hg : s.heap.Ns mainGlobals mg) (hm : mg "super" = none) (hb : s.heap.Ns builtinsNs mb) (hmb : mb "super" = bootBuiltins "super")
    (hlim : s.heap.NoLimit) (hx : s.heap.get? x = some (excO C t0)) (hnx : K.lookup x = none) (hroom : A.depth + 1 < recursionLimit)
    (hq : ∀ h' tk dx t1, InitEnd2 s.heap h' x C dx t1 f g v r → R (.ok (.ret .none)) { s with heap := h', toks := tk }) :
    codeAny (model P w) A (.call (.ref fI) ⟨[.ref x, v, r], []⟩) R s := by
  obtain ⟨oc, od, doc, pm, an, cda, cc, ct, osl, p1, p2, p3, a, b, c, d, e, q', a1, b1, c1, d1, hpos, ho, hcd, ⟨ccl, cdd, vs, ccs, file, tf, hcode, hvs, hfile⟩, cl, cld, csl, hcell⟩ := T.fn
  obtain ⟨nm, qq, N, bs, bm, sn, sub, ab, col, dd, k0, k1, k2, k3, k5, hC, hbm⟩ := T.base.cls
  have hcl : clsIn K C = some { name := nm, bases := bs, mro := .ref C :: bm, ns := N, qualname := qq, hasDict := true, slotNames := sn, subclasses := sub, abstract := ab, collection := col, hasDel := false } := by unfold clsIn; rw [hC] <;> rfl
  have X₁ : ∀ h' : Heap, (∀ b o, s.heap.get? b = some o → h'.get? b = some o) → K.In h' := fun h' k => X.keeps k
  refine ks_codeAny_call_defAt (fd := ksFn "__init__" q (yA pn rn p1 p2 p3) (yB g pn rn a b c d e q' a1 b1 c1 d1) (yS pn rn) .none .none doc pm an (.ref cda) ct cc) (binds := [(("self" : Str), .ref x), (pn, v), (rn, r)]) (Nat.lt_of_succ_lt hroom) (X _ _ ho) rfl hlim (codeRec_of X hcd) rfl
    (BindsTo.of_eq (T.wd.bnd _ _ _ _ _ _ _ _ _ _ _ _ _ _)) ?_ ?_ (fun h₁ hns k₁ => ?_)
  · intro z hz
    simp only [yS, List.mem_cons, List.not_mem_nil, or_false] at hz
    rcases hz with rfl | rfl | rfl | rfl | rfl <;> exact fun z => by cases z
  · intro z hz
    simp only [List.mem_cons, List.not_mem_nil, or_false] at hz
    rcases hz with rfl | rfl | rfl
    · exact T.wd.kF
    · exact T.wd.kP
    · exact T.wd.kR
  have hx₁ := k₁ _ _ hx
  have X1 := X₁ h₁ k₁
  have hD1 : h₁.get? C = _ := X1 _ _ hC
  have lS : (fun y => ([("self", .ref x), (pn, v), (rn, r)] : List (Str × Value)).reverse.lookup y) "self" = some (.ref x) := by
    show List.lookup (Str.ofString "self") [(rn, r), (pn, v), (Str.ofString "self", .ref x)] = _
    simp only [List.lookup]
    rw [show (Str.ofString "self" == rn) = false from by simpa using Ne.symm T.wd.nr, show (Str.ofString "self" == pn) = false from by simpa using Ne.symm T.wd.ne]
    simp
  have lP : (fun y => ([("self", .ref x), (pn, v), (rn, r)] : List (Str × Value)).reverse.lookup y) pn = some v := by
    show List.lookup pn [(rn, r), (pn, v), (Str.ofString "self", .ref x)] = _
    simp only [List.lookup]
    rw [show (pn == rn) = false from by simpa using T.wd.npr]
    simp
  have lR : (fun y => ([("self", .ref x), (pn, v), (rn, r)] : List (Str × Value)).reverse.lookup y) rn = some r := by
    show List.lookup rn [(rn, r), (pn, v), (Str.ofString "self", .ref x)] = _
    simp [List.lookup]
  have he : ∀ env : Env, eval (.Call (.Attribute (.Call (.Name "super" a) [] [] b) "__init__" c) [.Name pn d] [] e) env = (do
      let ov ← attributeBase (.Call (.Name "super" a) [] [] b) "__init__" env (eval (.Call (.Name "super" a) [] [] b) env)
      standAt c.atName
      let (f, first) ← holding [ov] (getMethod ov "__init__" (do return (← importBound (.Call (.Name "super" a) [] [] b) env).getD true))
      callWith e f first (backTo e (starEach [.Name pn d] env)) []) := fun env => by
    rw [eval]
    unfold methodCall calleeOf methodCallPos
    rw [hpos]
    rfl
  refine ks_wpAt_execs_cons (ks_wpAt_Expr_any (ks_wpAt_MethodCall ?_ (he _)))
  refine ks_wpAt_super_base (env := ksEnv q (yS pn rn) s.heap.objs.size fI (.ref cda) cc) T.wd.kS T.wd.kC (by decide) rfl (X1 _ _ ho) rfl rfl rfl (X1 _ _ hcode) rfl hvs hfile T.base.top ?_
  refine ks_loadName_global rfl T.wd.kS (loadGlobal_builtin (env := ksEnv q (yS pn rn) s.heap.objs.size fI (.ref cda) cc) (hg.keeps k₁) hm (hb.keeps k₁) (hmb.trans (by first | boot_by_name | rfl | kernel_rfl)) ⟨rfl, ?_⟩)
  refine wpAny_loadName_free rfl T.wd.kC rfl ⟨_, X1 _ _ hcell, rfl⟩ ?_
  refine wpAny_loadName_local rfl T.wd.kF hns lS ?_
  refine ks_wpAny_isType_cls hD1 rfl ⟨rfl, ?_⟩
  have xd : ∀ cc, (excO C t0).data ≠ .cls cc := fun cc z => by cases z
  refine ks_wpAny_call_super hD1 rfl hx₁ rfl xd (looks_mroIn X1 T.subC) (fun h₂ e₂ k₂ => ?_)
  have X2 : K.In h₂ := X1.keeps k₂
  have hx₂ := k₂ _ _ hx₁
  have hal : alongIn K "__init__" (((.ref C :: bm : List Value).dropWhile (· != .ref C)).drop 1) = some (some (.ref f1)) := by
    have z := T.sup
    unfold ks_superIn at z
    rw [hcl] at z
    exact z
  have I2 : InstAt h₂ x (excO C t0) C none := ⟨hx₂, rfl, rfl, trivial⟩
  obtain ⟨of, hof, hofc⟩ : ∃ of, h₂.get? f1 = some of ∧ of.cls = .type "function" := by
    have ht' : (K.lookup f1).map (·.cls) = some (.type "function") := T.tf1
    cases z : K.lookup f1 with
    | none => rw [z] at ht'; cases ht'
    | some of => rw [z] at ht'; exact ⟨of, X2 _ _ z, Option.some.inj ht'⟩
  refine ks_wpAny_getMethod_super e₂ (looks_opaque X2 T.base.opq) (l₀ := .ref C :: bm) ?_ rfl X2 hal hof hofc (ks_ne X2 I2 hcl) (by decide) ?_
  · exact fun A Q E s k q => wpAny_bind ((looks_clsIn X2 hcl) A _ E s k (wpAny_pure q))
  have k₃ : ∀ b o, h₂.get? b = some o → (h₂.push (methodObj (.ref f1) (.ref x))).get? b = some o := fun b o z => Heap.get?_push_of_some _ z
  have hmo : (h₂.push (methodObj (.ref f1) (.ref x))).get? h₂.objs.size = some (methodObj (.ref f1) (.ref x)) := Heap.get?_push_at rfl rfl
  have kk : ∀ b o, s.heap.get? b = some o → (h₂.push (methodObj (.ref f1) (.ref x))).get? b = some o := fun b o z => k₃ _ _ (k₂ _ _ (k₁ _ _ z))
  have X3 : K.In (h₂.push (methodObj (.ref f1) (.ref x))) := X₁ _ kk
  have ns3 := (hns.keeps k₂).keeps k₃
  refine callWith_of rfl (keeps_M (K := K) (q := h₂.objs.size) (f := f1) (self := .ref x) T.ff1) (evalArgs_plain (spliced_cons (wpAny_Name (wpAny_loadName_local rfl T.wd.kP ns3 lP (spliced_nil ?_)) T.wd.dbg)))
  refine ⟨⟨hmo, X3⟩, ?_⟩
  refine wpAny_call (method_call hmo (xinit (s := ⟨h₂.push (methodObj (.ref f1) (.ref x)), _, _, _, _⟩) (v := v) T.base X3 (hg.keeps kk) hm (hb.keeps kk) hmb (hlim.keeps kk) (kk _ _ hx) hnx ?_ fun h4 tk4 dx t4 ⟨k4, hx4, dn4, dne4, ns4⟩ => ?_))
  · show A.depth + 1 < recursionLimit
    exact hroom
  have nL : s.heap.objs.size ≠ x := Nat.ne_of_gt (Heap.lt_size hx)
  have X4 : K.In h4 := fun b o z => k4 b o (fun e => by rw [e, hnx] at z; cases z) (X3 b o z)
  have ns5 : h4.Ns s.heap.objs.size _ := ns3.at fun o z => k4 _ o nL z
  show wpAt _ _ _ _ _ _ _
  refine ks_wpAt_execs_cons (wpAt_of_wpAny (plainObj_wpAny_Assign_Attribute ?_))
  refine wpAny_Name (wpAny_loadName_local rfl T.wd.kR ns5 lR ?_) T.wd.dbr
  refine wpAny_Name (wpAny_loadName_local rfl T.wd.kF ns5 lS ?_) (by decide)
  obtain ⟨oD, esD, epD, hoD, hdD, _⟩ := ns4.count (ns := [f]) (fun y hy => by
    by_cases z : y = f
    · rw [z]; exact List.mem_singleton.mpr rfl
    · rw [if_neg z] at hy; exact absurd rfl hy)
  refine set_plain X4 (ox := _) (od := some oD) ⟨hx4, rfl, rfl, hoD⟩ T.base.sa ?_
  refine PySem.OEX.osa_old X4 hx4 ns4 (nl := [f]) (fun y hy => ?_) (Nat.le_of_lt (by show 1 < 1000; decide)) hcl (show refsVE (.ref C :: bm) = true from hbm) rfl T.noN (fun h5 tk5 k5' ns6 => ?_)
  · by_cases z : y = f
    · rw [z]; exact List.mem_singleton.mpr rfl
    · rw [if_neg z] at hy; exact absurd rfl hy
  refine wpAt_of_wpAny (wpAny_execs_nil (hq h5 tk5 dx t4 ⟨fun b o hb z => k5' b o ?_ (k4 b o hb (kk b o z)), k5' x _ (Ne.symm dne4) hx4, ?_, dne4, ns6⟩))
  · have lt := Heap.lt_size z
    have l2 := ns3.lt
    have l3 : (h₂.push (methodObj (.ref f1) (.ref x))).objs.size ≤ dx := dn4
    exact Nat.ne_of_lt (Nat.lt_of_lt_of_le (Nat.lt_trans lt l2) l3)
  · exact Nat.le_trans (Nat.le_of_lt ns3.lt) dn4
theorem xmade2 (T : Txt2 P K C D1 f1 fI q1 q f g pn1 pn rn) (iC : findIn K (.ref C) "__init__" = some (some (.ref fI))) (tC : typeIn K (.ref fI) = some (.type "function")) {v r : Value} {mg mb : Str → Option Value} (X : K.In s.heap)
    (hg : s.heap.Ns mainGlobals mg) (hm : mg "super" = none) (hb : s.heap.Ns builtinsNs mb) (hmb : mb "super" = bootBuiltins "super") (hlim : s.heap.NoLimit) (hroom : A.depth + 2 < recursionLimit)
    (hq : ∀ h' tk e d, Made2 s.heap h' e C d f g v r → R (.ok (.ret (.ref e))) { s with heap := h', toks := tk }) :
    codeAny (model P w) A (.call (.ref C) ⟨[v, r], []⟩) R s := by
  obtain ⟨nm, qq, N, bs, bm, sn, sub, ab, col, dd, k0, k1, k2, k3, k5, hC, hbm⟩ := T.base.cls
  obtain ⟨hp, gg, dr, tk, os⟩ := s
  have k : ∀ b o, hp.get? b = some o → ((hp.push (kdv_tup [v, r])).push (excO C hp.objs.size)).get? b = some o := fun b o e => Heap.get?_push_of_some _ (Heap.get?_push_of_some _ e)
  have hget : ((hp.push (kdv_tup [v, r])).push (excO C hp.objs.size)).get? (hp.objs.size + 1) = some (excO C hp.objs.size) := by heap_get
  have hnx : K.lookup (hp.objs.size + 1) = none := by
    cases e : K.lookup (hp.objs.size + 1) with
    | none => rfl
    | some o =>
      have z : hp.get? (hp.objs.size + 1) = some o := X _ _ e
      exact absurd (Nat.lt_of_succ_lt (Heap.lt_size z)) (Nat.lt_irrefl _)
  have two : [v, r].length ≤ sizeLine := by
    rw [sizeLine_eq]
    exact (by decide : 2 ≤ 16777216)
  refine call_own F.excBase_ValueError (fun X => refsVE_contains X bm hbm) (X _ _ hC) (looks_findIn X iC) (fun self => bind_fn X self tC) two ?_
  refine xinit2 (s := ⟨(hp.push (kdv_tup [v, r])).push (excO C hp.objs.size), gg, dr, tk, os⟩) T (X.keeps k) (hg.keeps k) hm (hb.keeps k) hmb (hlim.keeps k) hget hnx ?_ fun h' tk' dx t1 ⟨k', hx, dn, dne, hns⟩ => ?_
  · show A.depth + 1 + 1 < recursionLimit
    exact hroom
  · have old : ∀ b o, hp.get? b = some o → h'.get? b = some o := fun b o e => k' b o (Nat.ne_of_lt (Nat.lt_succ_of_lt (Heap.lt_size e))) (k b o e)
    have z : hp.objs.size + 1 + 1 ≤ dx := by
      have q := dn
      rw [Heap.size_push, Heap.size_push] at q
      exact q
    exact ⟨rfl, hq h' tk' (hp.objs.size + 1) dx ⟨old, Nat.le_succ _, ⟨_, _, hx, rfl, rfl, rfl, rfl, rfl⟩, Nat.le_trans (Nat.le_trans (Nat.le_succ _) (Nat.le_succ _)) z, dne, hns⟩⟩
end
end OwnX
end PySem
namespace L2
open PySem PySem.Spec PyProof.Rows
theorem relO_two {v r : V} {v' r' : Value} (rv : RelV v v') (rr : RelV r r') {f g : Str} (hn : f ≠ g) (y : Str) : RelO (List.lookup y [(f, v), (g, r)]) (if y = g then some r' else if y = f then some v' else none) := by
  by_cases hg : y = g
  · subst hg
    rw [if_pos rfl]
    have q : List.lookup y [(f, v), (y, r)] = some r := by
      have : (y == f) = false := by simpa using Ne.symm hn
      simp [List.lookup, this]
    rw [q]
    exact rr
  · rw [if_neg hg]
    by_cases hf : y = f
    · subst hf
      rw [if_pos rfl]
      have q : List.lookup y [(y, v), (g, r)] = some v := by simp [List.lookup]
      rw [q]
      exact rv
    · rw [if_neg hf]
      have q1 : (y == f) = false := by simpa using hf
      have q2 : (y == g) = false := by simpa using hg
      have q : List.lookup y [(f, v), (g, r)] = none := by simp [List.lookup, q1, q2]
      rw [q]
      trivial
/-- an error class of two fields -/
structure XCls2 (P : Program) (K : PySem.W.Frag) (mg : Str → Option Value) (nm : Str) (C : Addr) (f g : Str) : Prop where
  gC : mg nm = some (.ref C)
  how : ∃ D1 f1 fI q1 q pn1 pn rn, PySem.OwnX.Txt2 P K C D1 f1 fI q1 q f g pn1 pn rn ∧ PySem.W.findIn K (.ref C) "__init__" = some (some (.ref fI)) ∧ PySem.W.typeIn K (.ref fI) = some (.type "function")
  kC : PySem.W.keepIn K (.ref C) = true
  exC : PySem.W.subIn K (.ref C) (.type "BaseException") = some true
  tyC : PySem.W.typeIn K (.ref C) = some (.type "type")
  ga : PySem.W.findIn K (.ref C) "__getattribute__" = some (some (.builtin "BaseException.__getattribute__"))
  gg : PySem.W.findIn K (.ref C) "__getattr__" = some none
  hdC : PySem.W.hasDictIn K C = true
  sup : mg "super" = none
section
variable {X : Cx} {C : Addr} {nm f g : Str}
/-- E(e1, e2) -/
def tMkX2 (C : Addr) (f g : Str) (ta : TA) : St → Hp → XK → Prop := fun σ H Q => ta σ H fun vs H1 => ∃ v r, vs = [v, r] ∧ ∀ d, H1 d = none → Q (.ref C) (some d) (upd H1 d (.xd [(f, v), (g, r)]))
theorem pmk_x2 {a b : Expr} {ta : TA} {p pos : Pos} {k : Nat} (T : XCls2 X.prog X.K X.mg nm C f g) (hr : Room k X.A) (ha : PA X [a, b] ta) (hg : Gl X nm := by rfl)
    (hd : (nm == ("__debug__" : Str)) = false := by decide)
    (he : starEach (a :: [b]) X.env = (false, eval a X.env) :: starEach [b] X.env := by rfl) (hpl : (backTo pos (starEach [b] X.env)).any (·.1) = false := by rfl) :
    L2N.PMk X (.Call (.Name nm p) [a, b] [] pos) (tMkX2 C f g ta) := by
  intro pins s σ H Q I h
  obtain ⟨D1, f1, fI, q1, q, pn1, pn, rn, TT, iC, tC⟩ := T.how
  refine wpAny_Call_Name_kw (ld_glob I hg T.gC ?_ hd)
  refine PySem.W.callWith_K (h₀ := X.base) I.ok.mod.kin T.kC (thn (ha.run pos pins s σ H _ I h) fun us s1 hh => ?_) he hpl
  obtain ⟨vs, H1, I1, r1, v, r, ev, q1'⟩ := hh
  subst ev
  refine ⟨I1.kIn, ?_⟩
  obtain ⟨v', r', rfl, rv, rr⟩ := vals2 r1
  show wpAny _ _ (call (.ref C) [v', r']) _ _ _
  have hlim := I1.nolimit
  obtain ⟨mb, b1, b2⟩ := I1.mod.blt
  have hg1 := I1.mod.glob.keeps I1.bk
  have hb1 := b1.keeps I1.bk
  obtain ⟨hp, gg, dr, tk, os⟩ := s1
  refine wpAny_call (PySem.OwnX.xmade2 TT iC tC I1.kIn hg1 T.sup hb1 (b2 _ (by decide)) hlim (by have := hr.dp; omega) fun h' tk' e d M => ?_)
  show L2N.MkP X pins σ Q (.ref e) ⟨h', gg, dr, tk', os⟩
  obtain ⟨oe, fv, hoe, hc, hd, hdat, h1, h2⟩ := M.obj
  have hns := M.ns
  obtain ⟨G', g1, g2⟩ := restrict h' fun b => decide (b ≠ e)
  have gk : ∀ b, b ≠ e → G'.get? b = h'.get? b := fun b hb => g1 b (decide_eq_true hb)
  have ge : G'.get? e = none := g2 e (by simp)
  have old : ∀ b o, hp.get? b = some o → G'.get? b = some o := fun b o q => (gk b (Nat.ne_of_lt (Nat.lt_of_lt_of_le (Heap.lt_size q) M.new))).trans (M.keep b o q)
  have ob : ObjOk X.prog X.w (upd H1 d (.xd [(f, v), (g, r)])) G' d (.xd [(f, v), (g, r)]) :=
    ⟨_, hns.at (fun o q => (gk d M.dne).trans q), fun y => relO_two rv rr TT.nfg y⟩
  have J : Inv X pins σ (upd H1 d (.xd [(f, v), (g, r)])) ⟨G', gg, dr, tk', os⟩ := I1.laid (t' := tk') old M.dbig ob
  refine ⟨e, oe, fv, ⟨G', gg, dr, tk', os⟩, _, .ref C, some d, rfl, J, fun b o q => ?_, ge, hoe, ⟨hc, hd, fun vs e => by rw [hdat] at e; cases e; exact h2⟩, hdat, h1, ?_, rfl, I1.bare, raises_own T.exC T.tyC, q1' d (I1.hok.fresh M.dbig)⟩
  · by_cases hb : b = e
    · have q' : G'.get? b = some o := q
      rw [hb, ge] at q'; cases q'
    · exact (gk b hb).symm.trans q
  · rw [upd_ne (Ne.symm M.dne)]
    exact I1.hok.fresh M.new
def tRaiseX2 (C : Addr) (f g : Str) (W : WX) (ta : TA) : TS := fun _ σ H => tMkX2 C f g ta σ H fun cls d H' => W cls d σ H'
theorem ps_raiseX2 {a b : Expr} {ta : TA} {W : WX} {p pos pos2 : Pos} {k : Nat} (hc : X.calm = true) (T : XCls2 X.prog X.K X.mg nm C f g) (hr : Room k X.A) (tk : L2N.Takes X W) (ha : PA X [a, b] ta) (hg : Gl X nm := by rfl)
    (hd : (nm == ("__debug__" : Str)) = false := by decide)
    (he : starEach (a :: [b]) X.env = (false, eval a X.env) :: starEach [b] X.env := by rfl) (hpl : (backTo pos (starEach [b] X.env)).any (·.1) = false := by rfl) :
    PS X (.Raise (some (.Call (.Name nm p) [a, b] [] pos)) none pos2) (tRaiseX2 C f g W ta) := L2N.ps_raise hc tk (pmk_x2 T hr ha hg hd he hpl)
end
end L2

set_option Elab.async false
set_option linter.all false
set_option maxRecDepth 100000
set_option maxHeartbeats 4000000
namespace A
open PySem PySem.Spec PyProof.Rows L2
/-! ### raise -/
section
variable {X : Cx} {n : Cn} {C nm f g : Str} {a b : Expr} {t : AM (List D)} {p pos pos2 : Pos} {k : Nat}
def sRaise (C f : Str) (t : AM (List D)) : AS := sBind t fun ds De ρ S => opt (one1 ds) fun v => De.ex ⟨C, [f], [v]⟩ ρ S
theorem js_raise (hc : X.calm = true) (T : XCls X.prog X.K X.mg nm (n.c.cA C) f) (hr : Room k X.A) (tk : L2N.Takes X n.W) (ha : JA X n [a] t) (hg : Gl X nm := by rfl)
    (hd : (nm == ("__debug__" : Str)) = false := by decide)
    (he : starEach (a :: []) X.env = (false, eval a X.env) :: starEach [] X.env := by rfl) (hpl : (backTo pos (starEach [] X.env)).any (·.1) = false := by rfl) :
    JS X n (.Raise (some (.Call (.Name nm p) [a] [] pos)) none pos2) (sRaise C f t) := PS.imp (ps_raiseX hc T hr tk ha hg hd he hpl) fun De σ H h => by
  refine (upS.bind h).mono ?_
  rintro vs H1 ⟨w1, ρ, S1, D', ds, st1, r1, hf, k⟩
  obtain ⟨v, e1, q⟩ := opt_some hf
  obtain ⟨x, rfl, rx⟩ := one_rel e1 r1
  refine ⟨x, rfl, fun d hd => ?_⟩
  have s := Stp.alloc (w := w1) (N := S1.length) hd (.xd [(f, x)])
  exact k.ex w1 ρ S1 σ _ _ _ _ s (st1.step s (st1.wf.alloc hd _)) ⟨rfl, [(f, x)], upd_same, st1.wf.fresh hd, rfl, .cons (rx.stp s) .nil⟩ q
def sRaise2 (C f g : Str) (t : AM (List D)) : AS := sBind t fun ds De ρ S => opt (two2 ds) fun v => De.ex ⟨C, [f, g], [v.1, v.2]⟩ ρ S
theorem js_raise2 (hc : X.calm = true) (T : XCls2 X.prog X.K X.mg nm (n.c.cA C) f g) (hr : Room k X.A) (tk : L2N.Takes X n.W) (ha : JA X n [a, b] t) (hg : Gl X nm := by rfl)
    (hd : (nm == ("__debug__" : Str)) = false := by decide)
    (he : starEach (a :: [b]) X.env = (false, eval a X.env) :: starEach [b] X.env := by rfl) (hpl : (backTo pos (starEach [b] X.env)).any (·.1) = false := by rfl) :
    JS X n (.Raise (some (.Call (.Name nm p) [a, b] [] pos)) none pos2) (sRaise2 C f g t) := PS.imp (ps_raiseX2 hc T hr tk ha hg hd he hpl) fun De σ H h => by
  refine (upS.bind h).mono ?_
  rintro vs H1 ⟨w1, ρ, S1, D', ds, st1, r1, hf, k⟩
  obtain ⟨v, e1, q⟩ := opt_some hf
  obtain ⟨x, y, rfl, rx, ry⟩ := two_rel e1 r1
  refine ⟨x, y, rfl, fun d hd => ?_⟩
  have s := Stp.alloc (w := w1) (N := S1.length) hd (.xd [(f, x), (g, y)])
  exact k.ex w1 ρ S1 σ _ _ _ _ s (st1.step s (st1.wf.alloc hd _)) ⟨rfl, [(f, x), (g, y)], upd_same, st1.wf.fresh hd, rfl, .cons (rx.stp s) (.cons (ry.stp s) .nil)⟩ q
end
/-! ### try .. except -/
/-- a clause: its class, the slot of its name, its suite (by the held error's place and itself) -/
structure Cl where
  C : Str
  i : Option Nat
  su : Addr → Exc → AS
def hEnds (i : Option Nat) (De : EndsA) : EndsA := match i with
  | none => { De with ex := fun _ _ _ => False }
  | some i => ⟨fun ρ S => De.nx (ρ.set i none) S, De.rt, fun ρ S => De.bk (ρ.set i none) S, fun ρ S => De.ct (ρ.set i none) S, fun _ _ _ => False⟩
def hEv (i : Option Nat) (a : Addr) (ρ : Ev) : Ev := match i with
  | none => ρ
  | some i => ρ.set i (some (.adr a))
/-- the clauses, asked in order; sub: which class is below which -/
def hdl (sub : Str → Str → Bool) (x : Exc) (De : EndsA) : List Cl → Ev → Sto → Prop
  | [], ρ, S => De.ex x ρ S
  | c :: r, ρ, S => if sub x.C c.C = true then ∀ a, c.su a x (hEnds c.i De) (hEv c.i a ρ) S else hdl sub x De r ρ S
def sTry (Cs : List Str) (sub : Str → Str → Bool) (tb : AS) (cs : List Cl) : AS := fun De ρ S => tb { De with ex := fun x ρ1 S1 => x.C ∈ Cs ∧ hdl sub x De cs ρ1 S1 } ρ S
section
variable {X : Cx} {n : Cn} {body : List Stmt} {tb : AS} {h₀ : ExceptHandler} {hds : List ExceptHandler} {pos : Pos} {Cs : List Str} {sub : Str → Str → Bool}
/-- a suite's context -/
def Cn.suite (n : Cn) (x : Exc) (cls : Value) (d : Option Addr) : Cn := ⟨n.c, some (x, cls, d), fun _ _ _ _ => False⟩
def upCl (n : Cn) (c : Cl) : Addr → Value → Option Addr → TS := fun a cls d De σ H => ∃ x, upS (n.suite x cls d) (c.su a x) De σ H
inductive JH (X : Cx) (n : Cn) : List ExceptHandler → List Cl → Prop
  | done : JH X n [] []
  | bare {x : Str} {c : Cl} {b₀ : Stmt} {suite : List Stmt} {np q : Pos} {hds : List ExceptHandler} {l : List Cl} (hi : c.i = none) (hc : Names X x (.ref (n.c.cA c.C)))
      (hs : ∀ (a : Addr) (oe : Obj) (cls : Value) (d : Option Addr) (pn : List (Addr × Obj)) (e : Exc), L2N.Zn cls d oe → (∃ vs, oe.data = .fields vs) → JSs (X.suite a ((a, oe) :: pn)) (n.suite e cls d) (b₀ :: suite) (c.su a e)) (r : JH X n hds l) :
      JH X n (.ExceptHandler (some (.Name x np)) none (b₀ :: suite) q :: hds) (c :: l)
  | named {x : Str} {c : Cl} {b₀ : Stmt} {suite : List Stmt} {np q : Pos} {hds : List ExceptHandler} {l : List Cl} {m : Str} {i : Nat} (hi : c.i = some i) (hN : X.N.Nodup) (hm : X.N[i]? = some m) (hln : X.env.kindOf m = some .local) (hc : Names X x (.ref (n.c.cA c.C)))
      (hs : ∀ (a : Addr) (oe : Obj) (cls : Value) (d : Option Addr) (pn : List (Addr × Obj)) (e : Exc), L2N.Zn cls d oe → (∃ vs, oe.data = .fields vs) → JSs (X.suite a ((a, oe) :: pn)) (n.suite e cls d) (b₀ :: suite) (c.su a e)) (r : JH X n hds l) :
      JH X n (.ExceptHandler (some (.Name x np)) (some m) (b₀ :: suite) q :: hds) (c :: l)
def clTs (n : Cn) (c : Cl) : Value × (Addr → Value → Option Addr → TS) := (.ref (n.c.cA c.C), match c.i with | none => upCl n c | some i => hAs i (upCl n c))
theorem JH.hdl {cs : List Cl} (h : JH X n hds cs) : Hdl X hds (cs.map (clTs n)) := by
  induction h with
  | done => exact .done
  | @bare x c b₀ suite np q hds l hi hc hs r ih =>
    have e : clTs n c = (.ref (n.c.cA c.C), upCl n c) := by unfold clTs; rw [hi]
    rw [List.map_cons, e]
    refine .bare hc (fun a oe cls d pn hz hf => ⟨fun pins s σ H De I q => ?_⟩) ih
    obtain ⟨x, q⟩ := q
    exact (hs a oe cls d pn x hz hf).run pins s σ H De I q
  | @named x c b₀ suite np q hds l m i hi hN hm hln hc hs r ih =>
    have e : clTs n c = (.ref (n.c.cA c.C), hAs i (upCl n c)) := by unfold clTs; rw [hi]
    rw [List.map_cons, e]
    refine .named hN hm hln hc (fun a oe cls d pn hz hf => ⟨fun pins s σ H De I q => ?_⟩) ih
    obtain ⟨x, q⟩ := q
    exact (hs a oe cls d pn x hz hf).run pins s σ H De I q
theorem OkE.suite0 {w : Wd} {N : Nat} {H : Hp} {D' : EndsA} {De : Ends} (k : OkE n w N H D' De) (hg : RelG n.c w N H n.g) (x : Exc) (cls : Value) (d : Option Addr) : OkE (n.suite x cls d) w N H (hEnds none D') De :=
  ⟨fun w' ρ' S' σ' H' s st q => k.nx w' ρ' S' σ' H' s ⟨st.wf, st.ev, hg.stp s⟩ q, fun w' S' H' d v s f r q => k.rt w' S' H' d v s f r q, fun w' ρ' S' σ' H' s st q => k.bk w' ρ' S' σ' H' s ⟨st.wf, st.ev, hg.stp s⟩ q,
    fun w' ρ' S' σ' H' s st q => k.ct w' ρ' S' σ' H' s ⟨st.wf, st.ev, hg.stp s⟩ q, fun _ _ _ _ _ _ _ _ _ _ _ z => z⟩
theorem OkE.suite1 {w : Wd} {N : Nat} {H : Hp} {D' : EndsA} {De : Ends} (k : OkE n w N H D' De) (hg : RelG n.c w N H n.g) (x : Exc) (cls : Value) (d : Option Addr) (i : Nat) :
    OkE (n.suite x cls d) w N H (hEnds (some i) D') ⟨fun τ G => De.nx (τ.set i none) G, De.rt, fun τ G => De.bk (τ.set i none) G, fun τ G => De.ct (τ.set i none) G⟩ :=
  ⟨fun w' ρ' S' σ' H' s st q => k.nx w' _ S' _ H' s ⟨st.wf, st.ev.unset, hg.stp s⟩ q, fun w' S' H' d v s f r q => k.rt w' S' H' d v s f r q, fun w' ρ' S' σ' H' s st q => k.bk w' _ S' _ H' s ⟨st.wf, st.ev.unset, hg.stp s⟩ q,
    fun w' ρ' S' σ' H' s st q => k.ct w' _ S' _ H' s ⟨st.wf, st.ev.unset, hg.stp s⟩ q, fun _ _ _ _ _ _ _ _ _ _ _ z => z⟩
theorem wMany_of {De : Ends} {D' : EndsA} {w' : Wd} {ρ' : Ev} {S' : Sto} {σ' : L2.St} {H' : Hp} {x : Exc} {cls : Value} {d : Option Addr} (k' : OkE n w' S'.length H' D' De) (st' : Sta n.c n.g w' ρ' S' σ' H') (rx : RelX n.c w' S'.length H' x cls d) (hC : x.C ∈ Cs) :
    ∀ {cs : List Cl}, (∀ C ∈ Cs, ∀ c ∈ cs, PySem.W.exmOne n.c.K (.ref (n.c.cA C)) (.ref (n.c.cA c.C)) = some (sub C c.C)) → hdl sub x D' cs ρ' S' → wMany n.c.K n.W De (cs.map (clTs n)) cls d σ' H'
  | [], _, hx => k'.ex w' ρ' S' σ' H' x cls d Stp.refl st' rx hx
  | c :: cs, hsub, hx => by
    have ec : cls = .ref (n.c.cA x.C) := rx.1
    refine ⟨sub x.C c.C, by rw [ec]; exact hsub x.C hC c List.mem_cons_self, fun e a ha => ?_, fun e => wMany_of k' st' rx hC (fun C hC c hc => hsub C hC c (List.mem_cons_of_mem _ hc)) ?_⟩
    · simp only [hdl] at hx
      rw [if_pos e] at hx
      have hx := hx a
      obtain ⟨C, i, su⟩ := c
      cases i with
      | none => exact ⟨x, w', ρ', S', hEnds none D', ⟨st'.wf, st'.ev, rx⟩, hx, k'.suite0 st'.gx x cls d⟩
      | some i => exact ⟨x, w', _, S', hEnds (some i) D', ⟨st'.wf, st'.ev.set (.adr a), rx⟩, hx, k'.suite1 st'.gx x cls d i⟩
    · simp only [hdl] at hx
      rw [if_neg (by rw [e]; decide)] at hx
      exact hx
theorem js_try {cs : List Cl} (hs : X.stack = X.env :: X.outer) (hf : X.env.frame = some X.env.locals) (tk : L2N.Takes X n.W)
    (hb : ∀ (W : WX) (pn : List (Addr × Obj)) (xe : Value → Shared → Prop), L2N.Takes (X.tr pn xe) W → PassesOwn (model X.prog X.w) X.A X.env xe → JSs (X.tr pn xe) ⟨n.c, n.g, W⟩ body tb)
    (hh : JH X n (h₀ :: hds) cs) (hsub : ∀ C ∈ Cs, ∀ c ∈ cs, PySem.W.exmOne n.c.K (.ref (n.c.cA C)) (.ref (n.c.cA c.C)) = some (sub C c.C)) (hK : X.K = n.c.K := by rfl) : JS X n (.Try body (h₀ :: hds) [] [] pos) (sTry Cs sub tb cs) := by
  refine PS.imp (ps_tryN (tb := fun W => upS ⟨n.c, n.g, W⟩ tb) hs hf tk hb hh.hdl) fun De σ H h => ?_
  obtain ⟨w, ρ, S, D', st, h, k⟩ := h
  refine ⟨w, ρ, S, _, st, h, ⟨fun w' ρ' S' σ' H' => k.nx w' ρ' S' σ' H', k.rt, fun w' ρ' S' σ' H' => k.bk w' ρ' S' σ' H', fun w' ρ' S' σ' H' => k.ct w' ρ' S' σ' H', ?_⟩⟩
  rintro w' ρ' S' σ' H' x cls d s' st' rx ⟨hC, hx⟩
  rw [hK]
  exact wMany_of (k.step s') st' rx hC hsub hx
/-- e.f, e the held error -/
def aXf (a : Addr) (x : Exc) (Cs : List Str) (f : Str) (te : AM D) : AM D := fun ρ S Q E => x.C ∈ Cs ∧ aBind te (fun d => fun _ S Q _ => d = .adr a ∧ opt ((x.ns.zip x.vs).lookup f) fun v => Q v S) ρ S Q E
theorem j_xf {a : Addr} {x : Exc} {oe : Obj} {cls : Value} {d : Option Addr} {pn : List (Addr × Obj)} {e : Expr} {te : AM D} {pos : Pos} {f : Str} (T : ∀ C ∈ Cs, XfC X.K (n.c.cA C) ∧ PySem.W.findIn X.K (.ref (n.c.cA C)) f = some none)
    (hz : L2N.Zn cls d oe) (hf : ∃ vs, oe.data = .fields vs) (he : JE (X.suite a ((a, oe) :: pn)) (n.suite x cls d) e te) (hb : attributeBase e f X.env (eval e X.env) = eval e X.env := by rfl) :
    JE (X.suite a ((a, oe) :: pn)) (n.suite x cls d) (.Attribute e f pos) (aXf a x Cs f te) := by
  refine ⟨fun pins s σ H Q I h => ?_⟩
  obtain ⟨w, ρ, S, st, Q', E', ⟨hm, ht⟩, hq, he'⟩ := h
  have h : upW (n.suite x cls d).c (n.suite x cls d).W (Rel (n.suite x cls d).c) (aBind te (fun d => fun _ S Q _ => d = .adr a ∧ opt ((x.ns.zip x.vs).lookup f) fun v => Q v S)) w ρ S σ H Q := ⟨Q', E', ht, hq, he'⟩
  refine (pe_xf (X := X) (C := n.c.cA x.C) (T x.C hm).1 (T x.C hm).2 hz.zc hf he hb).run pins s σ H Q I ((upW.bind st h).mono ?_)
  rintro v H1 ⟨w1, S1, d1, st1, _, r1, h1⟩
  refine h1.op fun Q' hq hk => ?_
  obtain ⟨e1, hq⟩ := hq
  obtain ⟨y, e2, q⟩ := opt_some hq
  subst e1
  cases r1
  obtain ⟨g1, g2⟩ := st1.gx
  refine ⟨rfl, g1, ?_⟩
  cases d with
  | none =>
    rw [g2.1] at e2
    simp at e2
  | some dd =>
    obtain ⟨fs, h1, h2, h3, h4⟩ := g2
    have hl : x.ns.length = x.vs.length := by rw [h4.len, ← h3]; simp
    obtain ⟨z1, z2⟩ := zip_fst hl
    obtain ⟨u, hu, ru⟩ := (lookup_rel (fs := x.ns.zip x.vs) (f := f) (by rw [z1]; exact h3) (by rw [z2]; exact h4)).2 y e2
    exact ⟨dd, fs, u, rfl, h1, hu, hk _ _ _ _ _ Stp.refl st1.wf ru q⟩
end
/-! ### a def -/
def startD (N : List Str) (ds : List D) : Ev := ds.map some ++ List.replicate (N.length - ds.length) none
theorem relE_start {c : Cg} {w : Wd} {M : Nat} {H : Hp} {N : List Str} {ds : List D} {vs : List V} (r : RelL c w M H ds vs) : RelE c w M H (startD N ds) (L2.start N vs) := by
  refine ⟨by simp [startD, L2.start, r.len], fun i d e => ?_⟩
  unfold startD at e
  by_cases hi : i < ds.length
  · rw [List.getElem?_append_left (by simpa using hi), List.getElem?_map] at e
    cases e1 : ds[i]? with
    | none => rw [e1] at e; cases e
    | some d' =>
      rw [e1] at e
      cases e
      obtain ⟨v, h1, h2⟩ := r.get e1
      refine ⟨v, ?_, h2⟩
      unfold L2.start
      rw [List.getElem?_append_left (by rw [List.length_map, ← r.len]; exact hi), List.getElem?_map, h1]
      rfl
  · rw [List.getElem?_append_right (by simpa using hi), List.getElem?_replicate] at e
    split at e <;> cases e
def defEnds (Q : QD) (E : XQ) : EndsA := ⟨fun _ S => Q .non S, Q, fun _ _ => False, fun _ _ => False, fun x _ S => E x S⟩
/-- a def as the top has written it, with or without defaults -/
structure FunG (K : PySem.W.Frag) (x qual : Str) (st : Stmt) (f : Addr) (fd : FuncData) : Prop where
  ex : ∃ (oc : Value) (od : Option Addr) (dV kV doc pm : Value) (an : Option Addr) (cdv ct : Value) (osl : Array (Option Value)),
    fd = PySem.W.fnOf x qual (defArgs st) (defBody st) (defScope st) dV kV doc pm an cdv ct ∧ K.lookup f = some ⟨oc, od, .func fd, osl⟩ ∧ PySem.W.codeIn K cdv qual = true
  kp : PySem.W.keepIn K (.ref f) = true
theorem _root_.L2.Fun.g {K : PySem.W.Frag} {x qual : Str} {st : Stmt} {f : Addr} {fd : FuncData} (F : Fun K x qual st f fd) : FunG K x qual st f fd := by
  obtain ⟨⟨oc, od, kV, doc, pm, an, cdv, ct, osl, h⟩, kp⟩ := F
  exact ⟨⟨oc, od, _, kV, doc, pm, an, cdv, ct, osl, h⟩, kp⟩
section
variable {P : Program} {w : World} {K : PySem.W.Frag} {cA : Str → Addr} {mg : Str → Option Value} {base : Heap}
theorem def_ok {x qual : Str} {st : Stmt} {f : Addr} {fd : FuncData} {N ps : List Str} {k : Nat} {sp : ASp} {t : AS} (F : FunG K x qual st f fd) (Sc : FnScope N ps (defScope st))
    (hb : ∀ (cdv : Value) (A : Around) (outer : List Env) (s : Shared) (H : Hp) (E : XK), Room k (A.deeper (envOfC qual (defScope st) s.heap.objs.size f cdv)) →
      JSs (cxOf (L2N.CX P w) P w K mg base N qual (defScope st) f cdv A outer s H E) ⟨⟨K, cA⟩, none, fun cls d _ H => E cls d H⟩ (defBody st) t)
    (hl : ∀ ds S Q E, sp ds S Q E → ds.length = ps.length) (hv : ∀ ds S Q E, sp ds S Q E → t (defEnds Q E) (startD N ds) S) : FnOk P w K mg base (L2N.CX P w) (k + 1) f fd ps (upSp ⟨K, cA⟩ sp) := by
  obtain ⟨oc, od, dV, kV, doc, pm, an, cdv, ct, osl, rfl, lk, hcd⟩ := F.ex
  refine fn_of lk hcd Sc (fun vs H Q E h => ?_) (fun A outer s H vs Q E hr h => ?_)
  · obtain ⟨w, S, ds, Q', E', f, r, ht, _⟩ := h
    rw [← r.len]; exact hl _ _ _ _ ht
  · obtain ⟨w, S, ds, Q', E', f, r, ht, hq, he⟩ := h
    exact ⟨_, hb cdv A outer s H E hr, w, _, S, defEnds Q' E', ⟨f, relE_start r, trivial⟩, hv ds S Q' E' ht,
      ⟨fun w' ρ' S' σ' H' s' st' q => hq w' S' H' .non .non s' st'.wf .non q, hq, fun _ _ _ _ _ _ _ z => z, fun _ _ _ _ _ _ _ z => z, fun w' ρ' S' σ' H' x cls d s' st' rx q => he w' S' H' x cls d s' st'.wf rx q⟩⟩
end
end A

set_option Elab.async false
set_option linter.all false
set_option maxRecDepth 100000
set_option maxHeartbeats 4000000
namespace A
open PySem PySem.Spec PyProof.Rows L2
/-! ### constants of the module -/
/-- a written tuple of texts -/
def KTup (K : PySem.W.Frag) (a : Addr) (ss : List Str) : Prop := ∃ (o : Obj) (its : Array Value) (n : Nat), K.lookup a = some o ∧ o.cls = .type "tuple" ∧ o.data = .seq its n ∧ its.size ≤ sizeLine ∧ Vals (ss.map V.str) its.toList
theorem relL_strs {c : Cg} {w : Wd} {N : Nat} {H : Hp} : ∀ {ss : List Str}, RelL c w N H (ss.map D.str) (ss.map V.str)
  | [] => .nil
  | s :: ss => .cons (.str s) relL_strs
/-- a written dict of texts and numbers -/
def entOk (P : Params) : List DictEntry → List (Str × Int) → Prop
  | [], [] => True
  | e :: es, (k, i) :: m => (∃ t, e.key = .str k t) ∧ e.hash = PyData.keyHash P k ∧ (∃ t, e.val = .int i t) ∧ entOk P es m
  | _, _ => False
def KDc (K : PySem.W.Frag) (w : World) (a : Addr) (m : List (Str × Int)) : Prop := ∃ es n, K.lookup a = some ⟨.type "dict", none, .dict es n, #[]⟩ ∧ entOk w.params es.toList m ∧ (a == sysModules) = false
theorem entOk.lit {P : Params} : ∀ {es : List DictEntry} {m : List (Str × Int)}, entOk P es m → PySem.W.KeysLit P es
  | [], [], _ => trivial
  | e :: es, (k, i) :: m, ⟨⟨t, h1⟩, h2, _, r⟩ => ⟨⟨k, t, h1, h2⟩, r.lit⟩
  | [], _ :: _, h => h.elim
  | _ :: _, [], h => h.elim
theorem entOk.find {P : Params} {z : Str} : ∀ {es : List DictEntry} {m : List (Str × Int)}, entOk P es m → (m.lookup z = none → es.find? (fun e => Value.isStrOf z e.key) = none) ∧ ∀ i, m.lookup z = some i → ∃ e t, es.find? (fun e => Value.isStrOf z e.key) = some e ∧ e.val = .int i t
  | [], [], _ => ⟨fun _ => rfl, fun i h => by simp at h⟩
  | e :: es, (k, j) :: m, ⟨⟨t, h1⟩, _, ⟨u, h3⟩, r⟩ => by
    obtain ⟨i1, i2⟩ := r.find (z := z)
    simp only [List.lookup_cons, List.find?_cons]
    rw [h1]
    by_cases q : z = k
    · subst q
      have e1 : Value.isStrOf z (.str z t) = true := by simp [Value.isStrOf]
      rw [e1]
      simp only [beq_self_eq_true]
      exact ⟨fun z => by simp at z, fun i h => by simp at h; subst h; exact ⟨e, u, rfl, h3⟩⟩
    · have e1 : Value.isStrOf z (.str k t) = false := by simp [Value.isStrOf]; exact fun w => q (by rw [w])
      have e2 : (z == k) = false := by simpa using q
      rw [e1, e2]
      exact ⟨i1, i2⟩
  | [], _ :: _, h => h.elim
  | _ :: _, [], h => h.elim
theorem KDc.find {K : PySem.W.Frag} {w : World} {a : Addr} {m : List (Str × Int)} (h : KDc K w a m) : ∃ es n, K.lookup a = some ⟨.type "dict", none, .dict es n, #[]⟩ ∧ PySem.W.KeysLit w.params es.toList ∧ (a == sysModules) = false ∧
    ∀ z, (findBy Value.isStrOf es z).isSome = (m.lookup z).isSome ∧ ∀ i, m.lookup z = some i → ∃ t, findBy Value.isStrOf es z = some (.int i t) := by
  obtain ⟨es, n, h1, h2, h3⟩ := h
  refine ⟨es, n, h1, h2.lit, h3, fun z => ?_⟩
  obtain ⟨l⟩ := es
  obtain ⟨i1, i2⟩ := h2.find (z := z)
  unfold findBy
  rw [List.find?_toArray]
  cases e : m.lookup z with
  | none =>
    have := i1 e
    simp only at this
    rw [this]
    exact ⟨rfl, fun i h => nomatch h⟩
  | some i =>
    obtain ⟨en, t, e1, e2⟩ := i2 i e
    simp only at e1
    rw [e1]
    exact ⟨rfl, fun j h => by cases h; exact ⟨t, by simp [e2]⟩⟩
section
variable {X : Cx} {n : Cn} {x : Str} {pos : Pos} {a : Addr}
theorem j_gint {i : Int} {t : Tok} (hg : Gl X x) (hm : X.mg x = some (.int i t)) (hd : (x == ("__debug__" : Str)) = false := by decide) : JE X n (.Name x pos) (aC (.int i)) := je_of_c (pe_glob (v := .int i) hg hm ⟨_, rfl⟩ hd) fun _ _ _ => .int i
theorem j_gtup {ss : List Str} (hg : Gl X x) (hm : X.mg x = some (.ref a)) (hk : KTup n.c.K a ss) (hd : (x == ("__debug__" : Str)) = false := by decide) : JE X n (.Name x pos) (aC (.tup (ss.map D.str))) :=
  je_of_c (pe_glob (v := .ref a) hg hm rfl hd) fun _ _ _ => .tup (.inr hk) relL_strs
theorem j_gadr (hg : Gl X x) (hm : X.mg x = some (.ref a)) (hd : (x == ("__debug__" : Str)) = false := by decide) : JE X n (.Name x pos) (aC (.adr a)) := je_of_c (pe_glob (v := .ref a) hg hm rfl hd) fun _ _ _ => .adr a
theorem j_gcls {C : Str} (hg : Gl X x) (hm : X.mg x = some (.ref (n.c.cA C))) (hd : (x == ("__debug__" : Str)) = false := by decide) : JE X n (.Name x pos) (aC (.cl C)) := je_of_c (pe_glob (v := .ref (n.c.cA C)) hg hm rfl hd) fun _ _ _ => .cl C
theorem j_gty {T : String} (hg : Gl X x) (hm : X.mg x = none) (hv : bootBuiltins x = some (.type T)) (hn : x ≠ "__name__" := by decide) (hd : (x == ("__debug__" : Str)) = false := by decide) : JE X n (.Name x pos) (aC (.ty T)) :=
  je_of_c (pe_bltn (v := .ty T) hg hm hv rfl hn hd) fun _ _ _ => .ty T
def dKdIn (a : Addr) (m : List (Str × Int)) (neg : Bool) : F2 := fun d e S Q => e = .adr a ∧ opt (asS d) fun z => Q (.bl ((m.lookup z).isSome != neg)) S
def rKdIn (K : PySem.W.Frag) (w : World) (m : List (Str × Int)) (neg : Bool) : R2 := fun x y H Q => ∃ a z, y = .ref a ∧ x = .str z ∧ KDc K w a m ∧ Q (.bl ((m.lookup z).isSome != neg)) H
theorem op_kdIn {m : List (Str × Int)} : OpR X (compareOp .In) (rKdIn X.K X.w m false) := by
  intro pins s σ H x y v u Q I rx ry h
  obtain ⟨a, z, rfl, rfl, hk, q⟩ := h
  obtain ⟨es, k, h1, h2, h3, h4⟩ := hk.find
  cases (show u = Value.ref a from ry)
  obtain ⟨t, rfl⟩ := rx
  refine wpAny_in_of (strKind_is X.prog X.w z t) h3 (PySem.W.mapOf_K (prog := X.prog) (w := X.w) I.kIn h1 h2) ?_
  rw [(h4 z).1]
  rw [bxf] at q
  exact ⟨.bl _, H, I.tok _, rfl, q⟩
theorem op_kdNotIn {m : List (Str × Int)} : OpR X (compareOp .NotIn) (rKdIn X.K X.w m true) := by
  intro pins s σ H x y v u Q I rx ry h
  obtain ⟨a, z, rfl, rfl, hk, q⟩ := h
  obtain ⟨es, k, h1, h2, h3, h4⟩ := hk.find
  cases (show u = Value.ref a from ry)
  obtain ⟨t, rfl⟩ := rx
  refine wpAny_notIn_of (strKind_is X.prog X.w z t) h3 (PySem.W.mapOf_K (prog := X.prog) (w := X.w) I.kIn h1 h2) ?_
  rw [(h4 z).1]
  rw [bxt] at q
  exact ⟨.bl _, H, I.tok _, rfl, q⟩
theorem os_kdIn {c : Cg} {w : World} {m : List (Str × Int)} {neg : Bool} (hk : KDc c.K w a m) : OpS c (dKdIn a m neg) (rKdIn c.K w m neg) := by
  intro w' S H d e x y Q' Q f r1 r2 h k
  obtain ⟨rfl, h⟩ := h
  obtain ⟨z, e1, q⟩ := opt_some h
  obtain ⟨rfl, rfl⟩ := asS_rel e1 r1
  cases r2
  exact ⟨a, z, rfl, rfl, hk, fin0 f k (.bl _) q⟩
def dKdGet (a : Addr) (m : List (Str × Int)) : F2 := fun d e S Q => d = .adr a ∧ opt (asS e) fun z => opt (m.lookup z) fun i => Q (.int i) S
theorem os_kdGet {c : Cg} {w : World} {m : List (Str × Int)} (hk : KDc c.K w a m) : OpS c (dKdGet a m) (rIxD c.K w) := by
  intro w' S H d e x y Q' Q f r1 r2 h k
  obtain ⟨rfl, h⟩ := h
  obtain ⟨z, e1, h⟩ := opt_some h
  obtain ⟨i, e2, q⟩ := opt_some h
  obtain ⟨rfl, rfl⟩ := asS_rel e1 r2
  cases r1
  obtain ⟨es, k', h1, h2, h3, h4⟩ := hk.find
  obtain ⟨t, h5⟩ := (h4 z).2 i e2
  refine ⟨a, z, .int i, rfl, rfl, ⟨es, k', .int i t, h1, h2, ?_, ⟨t, rfl⟩⟩, fin0 f k (.int _) q⟩
  -- nsIn from findBy
  obtain ⟨l⟩ := es
  have q' : (fun d : DictEntry => Value.isStrOf z d.key) = fun d => d.key.isStr z := funext fun d => (PySem.W.isStr_of z d.key).symm
  unfold findBy at h5
  rw [List.find?_toArray, q'] at h5
  obtain ⟨en, e3, e4⟩ := Option.map_eq_some_iff.mp h5
  unfold PySem.W.nsIn
  rw [h1]
  simp only
  rw [e3]
  simp [e4]
end
/-! ### defs as they are called -/
section
variable {P : Program} {w : World} {K : PySem.W.Frag} {cA : Str → Addr} {mg : Str → Option Value} {base : Heap} {k : Nat} {f C : Addr} {fd : FuncData} {ps : List Str} {sp : Sp} {x m : Str}
theorem fnR_of (F : FnOk P w K mg base (L2N.CX P w) k f fd ps sp) (hb : Binds K fd ps []) : FnR P w K mg base (L2N.CX P w) k f sp := (FnOk.raw (ds := []) (dvs := []) F hb .nil).imp fun vs H Q E h => by rw [List.append_nil]; exact h
theorem fnc_of (F : FnOk P w K mg base (L2N.CX P w) k f fd ps sp) (hb : Binds K fd ps []) (hm : mg x = some (.ref f)) (hk : PySem.W.keepIn K (.ref f) = true) : Fnc P w K mg base k x sp := ⟨f, hm, hk, fnR_of F hb⟩
theorem mtd_of (F : FnOk P w K mg base (L2N.CX P w) k f fd ps sp) (hb : Binds K fd ps []) (hc : Cls K C) (hm : Meth K C m f) : Mtd P w K mg base k C m sp := ⟨f, hc, hm, fnR_of F hb⟩
theorem mkr_of (F : FnOk P w K mg base (L2N.CX P w) k f fd ps sp) (hb : Binds K fd ps []) (M : Mk K C f) (hm : mg x = some (.ref C)) : Mkr P w K mg base k x C sp := ⟨f, M, hm, fnR_of F hb⟩
theorem prp_of {p : Addr} (F : FnOk P w K mg base (L2N.CX P w) k f fd ps sp) (hb : Binds K fd ps []) (hc : Cls K C) (hp : PropOf K C m p f) : Prp P w K mg base k C m sp := ⟨p, f, hc, hp, fnR_of F hb⟩
theorem _root_.L2.Fnc.imp {sp' : Sp} (F : Fnc P w K mg base k x sp) (h : ∀ vs H Q E, sp' vs H Q E → sp vs H Q E) : Fnc P w K mg base k x sp' := let ⟨f, a, b, c⟩ := F.ex; ⟨f, a, b, c.imp h⟩
theorem _root_.L2.Fnc.mono {j : Nat} (F : Fnc P w K mg base j x sp) (h : j ≤ k) : Fnc P w K mg base k x sp := let ⟨f, a, b, c⟩ := F.ex; ⟨f, a, b, c.mono h⟩
theorem _root_.L2.Fnc.cut {c : Cg} {sp : ASp} (F : Fnc P w K mg base k x (upSp c sp)) : Fnc P w K mg base k x (upSp c (cutSp sp)) := F.imp fun vs H Q E h => cutSp_up vs H Q E h
/-- a promise that follows from another, exactly -/
theorem upSp.mono {c : Cg} {sp sp' : ASp} (h : ∀ ds S Q E, sp' ds S Q E → sp ds S Q E) (vs : List V) (H : Hp) (Q : VK) (E : XK) (q : upSp c sp' vs H Q E) : upSp c sp vs H Q E := by
  obtain ⟨w, S, ds, Q', E', f, r, ht, hq, he⟩ := q
  exact ⟨w, S, ds, Q', E', f, r, h _ _ _ _ ht, hq, he⟩
theorem _root_.L2.Fnc.weak {c : Cg} {sp sp' : ASp} (F : Fnc P w K mg base k x (upSp c sp)) (h : ∀ ds S Q E, sp' ds S Q E → sp ds S Q E) : Fnc P w K mg base k x (upSp c sp') := F.imp fun vs H Q E q => upSp.mono h vs H Q E q
end
end A

set_option Elab.async false
set_option linter.all false
set_option maxRecDepth 100000
set_option maxHeartbeats 4000000
namespace A
open PySem PySem.Spec PyProof.Rows L2
theorem u1 {k : Nat} {A : Around} (r : Room k A) : A.units + 1 < cLine := by have := r.units; omega
def three3 : List D → Option (D × D × D)
  | [a, b, c] => some (a, b, c)
  | _ => none
def four4 : List D → Option (D × D × D × D)
  | [a, b, c, d] => some (a, b, c, d)
  | _ => none
def five5 : List D → Option (D × D × D × D × D)
  | [a, b, c, d, e] => some (a, b, c, d, e)
  | _ => none
def six6 : List D → Option (D × D × D × D × D × D)
  | [a, b, c, d, e, f] => some (a, b, c, d, e, f)
  | _ => none
theorem opt_one {ds : List D} {f : D → Prop} (h : opt (one1 ds) f) : ∃ a, ds = [a] ∧ f a := by
  match ds, h with
  | [a], h => exact ⟨a, rfl, h⟩
theorem opt_two {ds : List D} {f : D × D → Prop} (h : opt (two2 ds) f) : ∃ a b, ds = [a, b] ∧ f (a, b) := by
  match ds, h with
  | [a, b], h => exact ⟨a, b, rfl, h⟩
theorem opt_three {ds : List D} {f : D × D × D → Prop} (h : opt (three3 ds) f) : ∃ a b c, ds = [a, b, c] ∧ f (a, b, c) := by
  match ds, h with
  | [a, b, c], h => exact ⟨a, b, c, rfl, h⟩
theorem opt_four {ds : List D} {f : D × D × D × D → Prop} (h : opt (four4 ds) f) : ∃ a b c d, ds = [a, b, c, d] ∧ f (a, b, c, d) := by
  match ds, h with
  | [a, b, c, d], h => exact ⟨a, b, c, d, rfl, h⟩
theorem opt_five {ds : List D} {f : D × D × D × D × D → Prop} (h : opt (five5 ds) f) : ∃ a b c d e, ds = [a, b, c, d, e] ∧ f (a, b, c, d, e) := by
  match ds, h with
  | [a, b, c, d, e], h => exact ⟨a, b, c, d, e, rfl, h⟩
theorem opt_six {ds : List D} {f : D × D × D × D × D × D → Prop} (h : opt (six6 ds) f) : ∃ a b c d e g, ds = [a, b, c, d, e, g] ∧ f (a, b, c, d, e, g) := by
  match ds, h with
  | [a, b, c, d, e, g], h => exact ⟨a, b, c, d, e, g, rfl, h⟩
theorem char_inj {a b : Char} (h : a.toNat = b.toNat) : a = b := Char.ext (UInt32.toNat_inj.mp h)
theorem map_inj' : ∀ {a b : List Char}, a.map Char.toNat = b.map Char.toNat → a = b
  | [], [], _ => rfl
  | [], _ :: _, h => by simp at h
  | _ :: _, [], h => by simp at h
  | x :: a, y :: b, h => by
    simp only [List.map_cons, List.cons.injEq] at h
    rw [char_inj h.1, map_inj' h.2]
theorem ofString_inj {a b : String} : (Str.ofString a = Str.ofString b) ↔ a = b := by
  constructor
  · intro h
    rw [Str.ofString_eq_toList, Str.ofString_eq_toList] at h
    have h1 := Str.mk.inj h
    have h2 : a.toList.map Char.toNat = b.toList.map Char.toNat := by simpa using h1
    exact String.toList_inj.mp (map_inj' h2)
  · rintro rfl; rfl
theorem ofString_beq {a b : String} : (Str.ofString a == Str.ofString b) = (a == b) := by
  rw [Bool.eq_iff_iff]
  simp [ofString_inj]
theorem v_opt_s {α : Type} (a : α) (f : α → Prop) : opt (some a) f = f a := rfl
theorem v_opt_n {α : Type} (f : α → Prop) : opt none f = False := rfl
theorem v_asI_non  : A.asI (D.non) = none := rfl
theorem v_asI_bl (b : Bool) : A.asI (D.bl b) = none := rfl
theorem v_asI_int (i : Int) : A.asI (D.int i) = some i := rfl
theorem v_asI_str (x : Str) : A.asI (D.str x) = none := rfl
theorem v_asI_tup (xs : List D) : A.asI (D.tup xs) = none := rfl
theorem v_asI_lst (xs : List D) : A.asI (D.lst xs) = none := rfl
theorem v_asI_obj (C : Str) (ns : List Str) (vs : List D) : A.asI (D.obj C ns vs) = none := rfl
theorem v_asI_ref (m : Nat) : A.asI (D.ref m) = none := rfl
theorem v_asI_ty (T : String) : A.asI (D.ty T) = none := rfl
theorem v_asI_cl (C : Str) : A.asI (D.cl C) = none := rfl
theorem v_asI_adr (a : Addr) : A.asI (D.adr a) = none := rfl
theorem v_asI_scr (ns : List Int) : A.asI (D.scr ns) = none := rfl
theorem v_asB_non  : A.asB (D.non) = none := rfl
theorem v_asB_bl (b : Bool) : A.asB (D.bl b) = some b := rfl
theorem v_asB_int (i : Int) : A.asB (D.int i) = none := rfl
theorem v_asB_str (x : Str) : A.asB (D.str x) = none := rfl
theorem v_asB_tup (xs : List D) : A.asB (D.tup xs) = none := rfl
theorem v_asB_lst (xs : List D) : A.asB (D.lst xs) = none := rfl
theorem v_asB_obj (C : Str) (ns : List Str) (vs : List D) : A.asB (D.obj C ns vs) = none := rfl
theorem v_asB_ref (m : Nat) : A.asB (D.ref m) = none := rfl
theorem v_asB_ty (T : String) : A.asB (D.ty T) = none := rfl
theorem v_asB_cl (C : Str) : A.asB (D.cl C) = none := rfl
theorem v_asB_adr (a : Addr) : A.asB (D.adr a) = none := rfl
theorem v_asB_scr (ns : List Int) : A.asB (D.scr ns) = none := rfl
theorem v_asS_non  : A.asS (D.non) = none := rfl
theorem v_asS_bl (b : Bool) : A.asS (D.bl b) = none := rfl
theorem v_asS_int (i : Int) : A.asS (D.int i) = none := rfl
theorem v_asS_str (x : Str) : A.asS (D.str x) = some x := rfl
theorem v_asS_tup (xs : List D) : A.asS (D.tup xs) = none := rfl
theorem v_asS_lst (xs : List D) : A.asS (D.lst xs) = none := rfl
theorem v_asS_obj (C : Str) (ns : List Str) (vs : List D) : A.asS (D.obj C ns vs) = none := rfl
theorem v_asS_ref (m : Nat) : A.asS (D.ref m) = none := rfl
theorem v_asS_ty (T : String) : A.asS (D.ty T) = none := rfl
theorem v_asS_cl (C : Str) : A.asS (D.cl C) = none := rfl
theorem v_asS_adr (a : Addr) : A.asS (D.adr a) = none := rfl
theorem v_asS_scr (ns : List Int) : A.asS (D.scr ns) = none := rfl
theorem v_asT_non  : A.asT (D.non) = none := rfl
theorem v_asT_bl (b : Bool) : A.asT (D.bl b) = none := rfl
theorem v_asT_int (i : Int) : A.asT (D.int i) = none := rfl
theorem v_asT_str (x : Str) : A.asT (D.str x) = none := rfl
theorem v_asT_tup (xs : List D) : A.asT (D.tup xs) = some xs := rfl
theorem v_asT_lst (xs : List D) : A.asT (D.lst xs) = none := rfl
theorem v_asT_obj (C : Str) (ns : List Str) (vs : List D) : A.asT (D.obj C ns vs) = none := rfl
theorem v_asT_ref (m : Nat) : A.asT (D.ref m) = none := rfl
theorem v_asT_ty (T : String) : A.asT (D.ty T) = none := rfl
theorem v_asT_cl (C : Str) : A.asT (D.cl C) = none := rfl
theorem v_asT_adr (a : Addr) : A.asT (D.adr a) = none := rfl
theorem v_asT_scr (ns : List Int) : A.asT (D.scr ns) = none := rfl
theorem v_asInt_non  : A.asInt (D.non) = none := rfl
theorem v_asInt_bl (b : Bool) : A.asInt (D.bl b) = some (if b then 1 else 0) := rfl
theorem v_asInt_int (i : Int) : A.asInt (D.int i) = some i := rfl
theorem v_asInt_str (x : Str) : A.asInt (D.str x) = none := rfl
theorem v_asInt_tup (xs : List D) : A.asInt (D.tup xs) = none := rfl
theorem v_asInt_lst (xs : List D) : A.asInt (D.lst xs) = none := rfl
theorem v_asInt_obj (C : Str) (ns : List Str) (vs : List D) : A.asInt (D.obj C ns vs) = none := rfl
theorem v_asInt_ref (m : Nat) : A.asInt (D.ref m) = none := rfl
theorem v_asInt_ty (T : String) : A.asInt (D.ty T) = none := rfl
theorem v_asInt_cl (C : Str) : A.asInt (D.cl C) = none := rfl
theorem v_asInt_adr (a : Addr) : A.asInt (D.adr a) = none := rfl
theorem v_asInt_scr (ns : List Int) : A.asInt (D.scr ns) = none := rfl
theorem v_asBool_non  : A.asBool (D.non) = none := rfl
theorem v_asBool_bl (b : Bool) : A.asBool (D.bl b) = some b := rfl
theorem v_asBool_int (i : Int) : A.asBool (D.int i) = some (i != 0) := rfl
theorem v_asBool_str (x : Str) : A.asBool (D.str x) = none := rfl
theorem v_asBool_tup (xs : List D) : A.asBool (D.tup xs) = none := rfl
theorem v_asBool_lst (xs : List D) : A.asBool (D.lst xs) = none := rfl
theorem v_asBool_obj (C : Str) (ns : List Str) (vs : List D) : A.asBool (D.obj C ns vs) = none := rfl
theorem v_asBool_ref (m : Nat) : A.asBool (D.ref m) = none := rfl
theorem v_asBool_ty (T : String) : A.asBool (D.ty T) = none := rfl
theorem v_asBool_cl (C : Str) : A.asBool (D.cl C) = none := rfl
theorem v_asBool_adr (a : Addr) : A.asBool (D.adr a) = none := rfl
theorem v_asBool_scr (ns : List Int) : A.asBool (D.scr ns) = none := rfl
theorem v_isNon_non  : A.isNon (D.non) = some true := rfl
theorem v_isNon_bl (b : Bool) : A.isNon (D.bl b) = some false := rfl
theorem v_isNon_int (i : Int) : A.isNon (D.int i) = some false := rfl
theorem v_isNon_str (x : Str) : A.isNon (D.str x) = some false := rfl
theorem v_isNon_tup (xs : List D) : A.isNon (D.tup xs) = some false := rfl
theorem v_isNon_lst (xs : List D) : A.isNon (D.lst xs) = some false := rfl
theorem v_isNon_obj (C : Str) (ns : List Str) (vs : List D) : A.isNon (D.obj C ns vs) = some false := rfl
theorem v_isNon_ref (m : Nat) : A.isNon (D.ref m) = some false := rfl
theorem v_isNon_ty (T : String) : A.isNon (D.ty T) = some false := rfl
theorem v_isNon_cl (C : Str) : A.isNon (D.cl C) = some false := rfl
theorem v_isNon_adr (a : Addr) : A.isNon (D.adr a) = some false := rfl
theorem v_isNon_scr (ns : List Int) : A.isNon (D.scr ns) = some false := rfl
theorem v_asTy_non  : A.asTy (D.non) = none := rfl
theorem v_asTy_bl (b : Bool) : A.asTy (D.bl b) = none := rfl
theorem v_asTy_int (i : Int) : A.asTy (D.int i) = none := rfl
theorem v_asTy_str (x : Str) : A.asTy (D.str x) = none := rfl
theorem v_asTy_tup (xs : List D) : A.asTy (D.tup xs) = none := rfl
theorem v_asTy_lst (xs : List D) : A.asTy (D.lst xs) = none := rfl
theorem v_asTy_obj (C : Str) (ns : List Str) (vs : List D) : A.asTy (D.obj C ns vs) = none := rfl
theorem v_asTy_ref (m : Nat) : A.asTy (D.ref m) = none := rfl
theorem v_asTy_ty (T : String) : A.asTy (D.ty T) = some T := rfl
theorem v_asTy_cl (C : Str) : A.asTy (D.cl C) = none := rfl
theorem v_asTy_adr (a : Addr) : A.asTy (D.adr a) = none := rfl
theorem v_asTy_scr (ns : List Int) : A.asTy (D.scr ns) = none := rfl
theorem v_refOf_non  : A.refOf (D.non) = none := rfl
theorem v_refOf_bl (b : Bool) : A.refOf (D.bl b) = none := rfl
theorem v_refOf_int (i : Int) : A.refOf (D.int i) = none := rfl
theorem v_refOf_str (x : Str) : A.refOf (D.str x) = none := rfl
theorem v_refOf_tup (xs : List D) : A.refOf (D.tup xs) = none := rfl
theorem v_refOf_lst (xs : List D) : A.refOf (D.lst xs) = none := rfl
theorem v_refOf_obj (C : Str) (ns : List Str) (vs : List D) : A.refOf (D.obj C ns vs) = none := rfl
theorem v_refOf_ref (m : Nat) : A.refOf (D.ref m) = some m := rfl
theorem v_refOf_ty (T : String) : A.refOf (D.ty T) = none := rfl
theorem v_refOf_cl (C : Str) : A.refOf (D.cl C) = none := rfl
theorem v_refOf_adr (a : Addr) : A.refOf (D.adr a) = none := rfl
theorem v_refOf_scr (ns : List Int) : A.refOf (D.scr ns) = none := rfl
theorem v_fv_non  : A.fv (D.non) = none := rfl
theorem v_fv_bl (b : Bool) : A.fv (D.bl b) = none := rfl
theorem v_fv_int (i : Int) : A.fv (D.int i) = none := rfl
theorem v_fv_str (x : Str) : A.fv (D.str x) = none := rfl
theorem v_fv_tup (xs : List D) : A.fv (D.tup xs) = some xs := rfl
theorem v_fv_lst (xs : List D) : A.fv (D.lst xs) = some xs := rfl
theorem v_fv_obj (C : Str) (ns : List Str) (vs : List D) : A.fv (D.obj C ns vs) = none := rfl
theorem v_fv_ref (m : Nat) : A.fv (D.ref m) = none := rfl
theorem v_fv_ty (T : String) : A.fv (D.ty T) = none := rfl
theorem v_fv_cl (C : Str) : A.fv (D.cl C) = none := rfl
theorem v_fv_adr (a : Addr) : A.fv (D.adr a) = none := rfl
theorem v_fv_scr (ns : List Int) : A.fv (D.scr ns) = some (ns.map D.int) := rfl
theorem v_fvL_non  : A.fvL (D.non) = none := rfl
theorem v_fvL_bl (b : Bool) : A.fvL (D.bl b) = none := rfl
theorem v_fvL_int (i : Int) : A.fvL (D.int i) = none := rfl
theorem v_fvL_str (x : Str) : A.fvL (D.str x) = none := rfl
theorem v_fvL_tup (xs : List D) : A.fvL (D.tup xs) = none := rfl
theorem v_fvL_lst (xs : List D) : A.fvL (D.lst xs) = some xs := rfl
theorem v_fvL_obj (C : Str) (ns : List Str) (vs : List D) : A.fvL (D.obj C ns vs) = none := rfl
theorem v_fvL_ref (m : Nat) : A.fvL (D.ref m) = none := rfl
theorem v_fvL_ty (T : String) : A.fvL (D.ty T) = none := rfl
theorem v_fvL_cl (C : Str) : A.fvL (D.cl C) = none := rfl
theorem v_fvL_adr (a : Addr) : A.fvL (D.adr a) = none := rfl
theorem v_fvL_scr (ns : List Int) : A.fvL (D.scr ns) = none := rfl
theorem v_lv_non (S : Sto)  : A.lv S (D.non) = none := rfl
theorem v_lv_bl (S : Sto) (b : Bool) : A.lv S (D.bl b) = none := rfl
theorem v_lv_int (S : Sto) (i : Int) : A.lv S (D.int i) = none := rfl
theorem v_lv_str (S : Sto) (x : Str) : A.lv S (D.str x) = none := rfl
theorem v_lv_tup (S : Sto) (xs : List D) : A.lv S (D.tup xs) = none := rfl
theorem v_lv_lst (S : Sto) (xs : List D) : A.lv S (D.lst xs) = some xs := rfl
theorem v_lv_obj (S : Sto) (C : Str) (ns : List Str) (vs : List D) : A.lv S (D.obj C ns vs) = none := rfl
theorem v_lv_ty (S : Sto) (T : String) : A.lv S (D.ty T) = none := rfl
theorem v_lv_cl (S : Sto) (C : Str) : A.lv S (D.cl C) = none := rfl
theorem v_lv_adr (S : Sto) (a : Addr) : A.lv S (D.adr a) = none := rfl
theorem v_lv_scr (S : Sto) (ns : List Int) : A.lv S (D.scr ns) = none := rfl
theorem v_sv_non (S : Sto)  : A.sv S (D.non) = none := rfl
theorem v_sv_bl (S : Sto) (b : Bool) : A.sv S (D.bl b) = none := rfl
theorem v_sv_int (S : Sto) (i : Int) : A.sv S (D.int i) = none := rfl
theorem v_sv_str (S : Sto) (x : Str) : A.sv S (D.str x) = none := rfl
theorem v_sv_tup (S : Sto) (xs : List D) : A.sv S (D.tup xs) = some xs := rfl
theorem v_sv_lst (S : Sto) (xs : List D) : A.sv S (D.lst xs) = some xs := rfl
theorem v_sv_obj (S : Sto) (C : Str) (ns : List Str) (vs : List D) : A.sv S (D.obj C ns vs) = none := rfl
theorem v_sv_ty (S : Sto) (T : String) : A.sv S (D.ty T) = none := rfl
theorem v_sv_cl (S : Sto) (C : Str) : A.sv S (D.cl C) = none := rfl
theorem v_sv_adr (S : Sto) (a : Addr) : A.sv S (D.adr a) = none := rfl
theorem v_sv_scr (S : Sto) (ns : List Int) : A.sv S (D.scr ns) = some (ns.map D.int) := rfl
theorem v_tyN_non (S : Sto)  : A.tyN S (D.non) = some "NoneType" := rfl
theorem v_tyN_bl (S : Sto) (b : Bool) : A.tyN S (D.bl b) = some "bool" := rfl
theorem v_tyN_int (S : Sto) (i : Int) : A.tyN S (D.int i) = some "int" := rfl
theorem v_tyN_str (S : Sto) (x : Str) : A.tyN S (D.str x) = some "str" := rfl
theorem v_tyN_tup (S : Sto) (xs : List D) : A.tyN S (D.tup xs) = some "tuple" := rfl
theorem v_tyN_lst (S : Sto) (xs : List D) : A.tyN S (D.lst xs) = some "list" := rfl
theorem v_tyN_obj (S : Sto) (C : Str) (ns : List Str) (vs : List D) : A.tyN S (D.obj C ns vs) = none := rfl
theorem v_tyN_ty (S : Sto) (T : String) : A.tyN S (D.ty T) = none := rfl
theorem v_tyN_cl (S : Sto) (C : Str) : A.tyN S (D.cl C) = none := rfl
theorem v_tyN_adr (S : Sto) (a : Addr) : A.tyN S (D.adr a) = none := rfl
theorem v_tyN_scr (S : Sto) (ns : List Int) : A.tyN S (D.scr ns) = some "list" := rfl
theorem v_rd_non (S : Sto)  : A.rd S (D.non) = D.non := rfl
theorem v_rd_bl (S : Sto) (b : Bool) : A.rd S (D.bl b) = D.bl b := rfl
theorem v_rd_int (S : Sto) (i : Int) : A.rd S (D.int i) = D.int i := rfl
theorem v_rd_str (S : Sto) (x : Str) : A.rd S (D.str x) = D.str x := rfl
theorem v_rd_tup (S : Sto) (xs : List D) : A.rd S (D.tup xs) = D.tup xs := rfl
theorem v_rd_lst (S : Sto) (xs : List D) : A.rd S (D.lst xs) = D.lst xs := rfl
theorem v_rd_obj (S : Sto) (C : Str) (ns : List Str) (vs : List D) : A.rd S (D.obj C ns vs) = D.obj C ns vs := rfl
theorem v_rd_ty (S : Sto) (T : String) : A.rd S (D.ty T) = D.ty T := rfl
theorem v_rd_cl (S : Sto) (C : Str) : A.rd S (D.cl C) = D.cl C := rfl
theorem v_rd_adr (S : Sto) (a : Addr) : A.rd S (D.adr a) = D.adr a := rfl
theorem v_rd_scr (S : Sto) (ns : List Int) : A.rd S (D.scr ns) = D.scr ns := rfl
theorem v_lv_ref (S : Sto) (m : Nat) : A.lv S (D.ref m) = lstAt S m := rfl
theorem v_sv_ref (S : Sto) (m : Nat) : A.sv S (D.ref m) = lstAt S m := rfl
theorem v_one1 (d0 : D) : A.one1 [d0] = some d0 := rfl
theorem v_two2 (d0 d1 : D) : A.two2 [d0, d1] = some (d0, d1) := rfl
theorem v_three3 (d0 d1 d2 : D) : A.three3 [d0, d1, d2] = some (d0, d1, d2) := rfl
theorem v_four4 (d0 d1 d2 d3 : D) : A.four4 [d0, d1, d2, d3] = some (d0, d1, d2, d3) := rfl
theorem v_five5 (d0 d1 d2 d3 d4 : D) : A.five5 [d0, d1, d2, d3, d4] = some (d0, d1, d2, d3, d4) := rfl
theorem v_six6 (d0 d1 d2 d3 d4 d5 : D) : A.six6 [d0, d1, d2, d3, d4, d5] = some (d0, d1, d2, d3, d4, d5) := rfl
theorem v_dEq_int_int (i : Int) (j : Int) (S : Sto) (Q : QD) : A.dEq (D.int i) (D.int j) S Q = Q (.bl (decide (i = j) != false)) S := rfl
theorem v_dEq_str_str (x : Str) (y : Str) (S : Sto) (Q : QD) : A.dEq (D.str x) (D.str y) S Q = Q (.bl (decide (x = y) != false)) S := rfl
theorem v_dEq_bl_bl (b : Bool) (c : Bool) (S : Sto) (Q : QD) : A.dEq (D.bl b) (D.bl c) S Q = Q (.bl (decide (b = c) != false)) S := rfl
theorem v_dEq_non_non   (S : Sto) (Q : QD) : A.dEq (D.non) (D.non) S Q = Q (.bl (true != false)) S := rfl
theorem v_dEq_int_non (i : Int)  (S : Sto) (Q : QD) : A.dEq (D.int i) (D.non) S Q = Q (.bl (false != false)) S := rfl
theorem v_dEq_non_int  (j : Int) (S : Sto) (Q : QD) : A.dEq (D.non) (D.int j) S Q = Q (.bl (false != false)) S := rfl
theorem v_dEq_str_non (x : Str)  (S : Sto) (Q : QD) : A.dEq (D.str x) (D.non) S Q = Q (.bl (false != false)) S := rfl
theorem v_dEq_non_str  (y : Str) (S : Sto) (Q : QD) : A.dEq (D.non) (D.str y) S Q = Q (.bl (false != false)) S := rfl
theorem v_dEq_int_str (i : Int) (y : Str) (S : Sto) (Q : QD) : A.dEq (D.int i) (D.str y) S Q = Q (.bl (false != false)) S := rfl
theorem v_dEq_str_int (x : Str) (j : Int) (S : Sto) (Q : QD) : A.dEq (D.str x) (D.int j) S Q = Q (.bl (false != false)) S := rfl
theorem v_dEq_tup (xs : List D) (e : D) (S : Sto) (Q : QD) : A.dEq (D.tup xs) e S Q = ((dat (rd S (D.tup xs)) = true ∧ dat (rd S e) = true) ∧ Q (.bl (eqD (rd S (D.tup xs)) (rd S e) != false)) S) := by cases e <;> rfl
theorem v_dEq_lst (xs : List D) (e : D) (S : Sto) (Q : QD) : A.dEq (D.lst xs) e S Q = ((dat (rd S (D.lst xs)) = true ∧ dat (rd S e) = true) ∧ Q (.bl (eqD (rd S (D.lst xs)) (rd S e) != false)) S) := by cases e <;> rfl
theorem v_dEq_ref (m : Nat) (e : D) (S : Sto) (Q : QD) : A.dEq (D.ref m) e S Q = ((dat (rd S (D.ref m)) = true ∧ dat (rd S e) = true) ∧ Q (.bl (eqD (rd S (D.ref m)) (rd S e) != false)) S) := by cases e <;> rfl
theorem v_dEq_non_tup  (ys : List D) (S : Sto) (Q : QD) : A.dEq (D.non) (D.tup ys) S Q = ((dat (rd S (D.non)) = true ∧ dat (rd S (D.tup ys)) = true) ∧ Q (.bl (eqD (rd S (D.non)) (rd S (D.tup ys)) != false)) S) := rfl
theorem v_dEq_non_lst  (ys : List D) (S : Sto) (Q : QD) : A.dEq (D.non) (D.lst ys) S Q = ((dat (rd S (D.non)) = true ∧ dat (rd S (D.lst ys)) = true) ∧ Q (.bl (eqD (rd S (D.non)) (rd S (D.lst ys)) != false)) S) := rfl
theorem v_dEq_non_ref  (k : Nat) (S : Sto) (Q : QD) : A.dEq (D.non) (D.ref k) S Q = ((dat (rd S (D.non)) = true ∧ dat (rd S (D.ref k)) = true) ∧ Q (.bl (eqD (rd S (D.non)) (rd S (D.ref k)) != false)) S) := rfl
theorem v_dEq_bl_tup (b : Bool) (ys : List D) (S : Sto) (Q : QD) : A.dEq (D.bl b) (D.tup ys) S Q = ((dat (rd S (D.bl b)) = true ∧ dat (rd S (D.tup ys)) = true) ∧ Q (.bl (eqD (rd S (D.bl b)) (rd S (D.tup ys)) != false)) S) := rfl
theorem v_dEq_bl_lst (b : Bool) (ys : List D) (S : Sto) (Q : QD) : A.dEq (D.bl b) (D.lst ys) S Q = ((dat (rd S (D.bl b)) = true ∧ dat (rd S (D.lst ys)) = true) ∧ Q (.bl (eqD (rd S (D.bl b)) (rd S (D.lst ys)) != false)) S) := rfl
theorem v_dEq_bl_ref (b : Bool) (k : Nat) (S : Sto) (Q : QD) : A.dEq (D.bl b) (D.ref k) S Q = ((dat (rd S (D.bl b)) = true ∧ dat (rd S (D.ref k)) = true) ∧ Q (.bl (eqD (rd S (D.bl b)) (rd S (D.ref k)) != false)) S) := rfl
theorem v_dEq_int_tup (i : Int) (ys : List D) (S : Sto) (Q : QD) : A.dEq (D.int i) (D.tup ys) S Q = ((dat (rd S (D.int i)) = true ∧ dat (rd S (D.tup ys)) = true) ∧ Q (.bl (eqD (rd S (D.int i)) (rd S (D.tup ys)) != false)) S) := rfl
theorem v_dEq_int_lst (i : Int) (ys : List D) (S : Sto) (Q : QD) : A.dEq (D.int i) (D.lst ys) S Q = ((dat (rd S (D.int i)) = true ∧ dat (rd S (D.lst ys)) = true) ∧ Q (.bl (eqD (rd S (D.int i)) (rd S (D.lst ys)) != false)) S) := rfl
theorem v_dEq_int_ref (i : Int) (k : Nat) (S : Sto) (Q : QD) : A.dEq (D.int i) (D.ref k) S Q = ((dat (rd S (D.int i)) = true ∧ dat (rd S (D.ref k)) = true) ∧ Q (.bl (eqD (rd S (D.int i)) (rd S (D.ref k)) != false)) S) := rfl
theorem v_dEq_str_tup (x : Str) (ys : List D) (S : Sto) (Q : QD) : A.dEq (D.str x) (D.tup ys) S Q = ((dat (rd S (D.str x)) = true ∧ dat (rd S (D.tup ys)) = true) ∧ Q (.bl (eqD (rd S (D.str x)) (rd S (D.tup ys)) != false)) S) := rfl
theorem v_dEq_str_lst (x : Str) (ys : List D) (S : Sto) (Q : QD) : A.dEq (D.str x) (D.lst ys) S Q = ((dat (rd S (D.str x)) = true ∧ dat (rd S (D.lst ys)) = true) ∧ Q (.bl (eqD (rd S (D.str x)) (rd S (D.lst ys)) != false)) S) := rfl
theorem v_dEq_str_ref (x : Str) (k : Nat) (S : Sto) (Q : QD) : A.dEq (D.str x) (D.ref k) S Q = ((dat (rd S (D.str x)) = true ∧ dat (rd S (D.ref k)) = true) ∧ Q (.bl (eqD (rd S (D.str x)) (rd S (D.ref k)) != false)) S) := rfl
theorem v_dNe_int_int (i : Int) (j : Int) (S : Sto) (Q : QD) : A.dNe (D.int i) (D.int j) S Q = Q (.bl (decide (i = j) != true)) S := rfl
theorem v_dNe_str_str (x : Str) (y : Str) (S : Sto) (Q : QD) : A.dNe (D.str x) (D.str y) S Q = Q (.bl (decide (x = y) != true)) S := rfl
theorem v_dNe_bl_bl (b : Bool) (c : Bool) (S : Sto) (Q : QD) : A.dNe (D.bl b) (D.bl c) S Q = Q (.bl (decide (b = c) != true)) S := rfl
theorem v_dNe_non_non   (S : Sto) (Q : QD) : A.dNe (D.non) (D.non) S Q = Q (.bl (true != true)) S := rfl
theorem v_dNe_int_non (i : Int)  (S : Sto) (Q : QD) : A.dNe (D.int i) (D.non) S Q = Q (.bl (false != true)) S := rfl
theorem v_dNe_non_int  (j : Int) (S : Sto) (Q : QD) : A.dNe (D.non) (D.int j) S Q = Q (.bl (false != true)) S := rfl
theorem v_dNe_str_non (x : Str)  (S : Sto) (Q : QD) : A.dNe (D.str x) (D.non) S Q = Q (.bl (false != true)) S := rfl
theorem v_dNe_non_str  (y : Str) (S : Sto) (Q : QD) : A.dNe (D.non) (D.str y) S Q = Q (.bl (false != true)) S := rfl
theorem v_dNe_int_str (i : Int) (y : Str) (S : Sto) (Q : QD) : A.dNe (D.int i) (D.str y) S Q = Q (.bl (false != true)) S := rfl
theorem v_dNe_str_int (x : Str) (j : Int) (S : Sto) (Q : QD) : A.dNe (D.str x) (D.int j) S Q = Q (.bl (false != true)) S := rfl
theorem v_dNe_tup (xs : List D) (e : D) (S : Sto) (Q : QD) : A.dNe (D.tup xs) e S Q = ((dat (rd S (D.tup xs)) = true ∧ dat (rd S e) = true) ∧ Q (.bl (eqD (rd S (D.tup xs)) (rd S e) != true)) S) := by cases e <;> rfl
theorem v_dNe_lst (xs : List D) (e : D) (S : Sto) (Q : QD) : A.dNe (D.lst xs) e S Q = ((dat (rd S (D.lst xs)) = true ∧ dat (rd S e) = true) ∧ Q (.bl (eqD (rd S (D.lst xs)) (rd S e) != true)) S) := by cases e <;> rfl
theorem v_dNe_ref (m : Nat) (e : D) (S : Sto) (Q : QD) : A.dNe (D.ref m) e S Q = ((dat (rd S (D.ref m)) = true ∧ dat (rd S e) = true) ∧ Q (.bl (eqD (rd S (D.ref m)) (rd S e) != true)) S) := by cases e <;> rfl
theorem v_dNe_non_tup  (ys : List D) (S : Sto) (Q : QD) : A.dNe (D.non) (D.tup ys) S Q = ((dat (rd S (D.non)) = true ∧ dat (rd S (D.tup ys)) = true) ∧ Q (.bl (eqD (rd S (D.non)) (rd S (D.tup ys)) != true)) S) := rfl
theorem v_dNe_non_lst  (ys : List D) (S : Sto) (Q : QD) : A.dNe (D.non) (D.lst ys) S Q = ((dat (rd S (D.non)) = true ∧ dat (rd S (D.lst ys)) = true) ∧ Q (.bl (eqD (rd S (D.non)) (rd S (D.lst ys)) != true)) S) := rfl
theorem v_dNe_non_ref  (k : Nat) (S : Sto) (Q : QD) : A.dNe (D.non) (D.ref k) S Q = ((dat (rd S (D.non)) = true ∧ dat (rd S (D.ref k)) = true) ∧ Q (.bl (eqD (rd S (D.non)) (rd S (D.ref k)) != true)) S) := rfl
theorem v_dNe_bl_tup (b : Bool) (ys : List D) (S : Sto) (Q : QD) : A.dNe (D.bl b) (D.tup ys) S Q = ((dat (rd S (D.bl b)) = true ∧ dat (rd S (D.tup ys)) = true) ∧ Q (.bl (eqD (rd S (D.bl b)) (rd S (D.tup ys)) != true)) S) := rfl
theorem v_dNe_bl_lst (b : Bool) (ys : List D) (S : Sto) (Q : QD) : A.dNe (D.bl b) (D.lst ys) S Q = ((dat (rd S (D.bl b)) = true ∧ dat (rd S (D.lst ys)) = true) ∧ Q (.bl (eqD (rd S (D.bl b)) (rd S (D.lst ys)) != true)) S) := rfl
theorem v_dNe_bl_ref (b : Bool) (k : Nat) (S : Sto) (Q : QD) : A.dNe (D.bl b) (D.ref k) S Q = ((dat (rd S (D.bl b)) = true ∧ dat (rd S (D.ref k)) = true) ∧ Q (.bl (eqD (rd S (D.bl b)) (rd S (D.ref k)) != true)) S) := rfl
theorem v_dNe_int_tup (i : Int) (ys : List D) (S : Sto) (Q : QD) : A.dNe (D.int i) (D.tup ys) S Q = ((dat (rd S (D.int i)) = true ∧ dat (rd S (D.tup ys)) = true) ∧ Q (.bl (eqD (rd S (D.int i)) (rd S (D.tup ys)) != true)) S) := rfl
theorem v_dNe_int_lst (i : Int) (ys : List D) (S : Sto) (Q : QD) : A.dNe (D.int i) (D.lst ys) S Q = ((dat (rd S (D.int i)) = true ∧ dat (rd S (D.lst ys)) = true) ∧ Q (.bl (eqD (rd S (D.int i)) (rd S (D.lst ys)) != true)) S) := rfl
theorem v_dNe_int_ref (i : Int) (k : Nat) (S : Sto) (Q : QD) : A.dNe (D.int i) (D.ref k) S Q = ((dat (rd S (D.int i)) = true ∧ dat (rd S (D.ref k)) = true) ∧ Q (.bl (eqD (rd S (D.int i)) (rd S (D.ref k)) != true)) S) := rfl
theorem v_dNe_str_tup (x : Str) (ys : List D) (S : Sto) (Q : QD) : A.dNe (D.str x) (D.tup ys) S Q = ((dat (rd S (D.str x)) = true ∧ dat (rd S (D.tup ys)) = true) ∧ Q (.bl (eqD (rd S (D.str x)) (rd S (D.tup ys)) != true)) S) := rfl
theorem v_dNe_str_lst (x : Str) (ys : List D) (S : Sto) (Q : QD) : A.dNe (D.str x) (D.lst ys) S Q = ((dat (rd S (D.str x)) = true ∧ dat (rd S (D.lst ys)) = true) ∧ Q (.bl (eqD (rd S (D.str x)) (rd S (D.lst ys)) != true)) S) := rfl
theorem v_dNe_str_ref (x : Str) (k : Nat) (S : Sto) (Q : QD) : A.dNe (D.str x) (D.ref k) S Q = ((dat (rd S (D.str x)) = true ∧ dat (rd S (D.ref k)) = true) ∧ Q (.bl (eqD (rd S (D.str x)) (rd S (D.ref k)) != true)) S) := rfl
theorem v_dAdd_int (i : Int) (e : D) (S : Sto) (Q : QD) : A.dAdd (.int i) e S Q = opt (asI e) fun j => Q (.int (i + j)) S := rfl
theorem v_dAdd_tup (xs : List D) (e : D) (S : Sto) (Q : QD) : A.dAdd (.tup xs) e S Q = opt (asT e) fun ys => xs.length + ys.length ≤ big ∧ Q (.tup (xs ++ ys)) S := rfl
theorem v_dAdd_lst (xs : List D) (e : D) (S : Sto) (Q : QD) : A.dAdd (.lst xs) e S Q = opt (lv S e) fun ys => xs.length + ys.length ≤ big ∧ Q (.lst (xs ++ ys)) S := rfl
theorem v_dAdd_ref (m : Nat) (e : D) (S : Sto) (Q : QD) : A.dAdd (.ref m) e S Q = opt (lstAt S m) fun xs => opt (lv S e) fun ys => xs.length + ys.length ≤ big ∧ Q (.lst (xs ++ ys)) S := rfl
theorem v_dMul_int (i : Int) (e : D) (S : Sto) (Q : QD) : A.dMul (.int i) e S Q = opt (asI e) fun j => mulOk i j ∧ Q (.int (i * j)) S := rfl
theorem v_dMul_lst (xs : List D) (e : D) (S : Sto) (Q : QD) : A.dMul (.lst xs) e S Q = opt (asI e) fun j => (-1000000 < j ∧ j < 1000000 ∧ xs.length * j.toNat ≤ big) ∧ Q (.lst (repD xs j)) S := rfl
theorem v_dSl_tup (xs : List D) (lo hi : Option Int) (S : Sto) (Q : QD) : A.dSl (.tup xs) lo hi S Q = Q (.tup (cutD xs lo hi)) S := rfl
theorem v_dSl_lst (xs : List D) (lo hi : Option Int) (S : Sto) (Q : QD) : A.dSl (.lst xs) lo hi S Q = Q (.lst (cutD xs lo hi)) S := rfl
theorem v_dSl_ref (m : Nat) (lo hi : Option Int) (S : Sto) (Q : QD) : A.dSl (.ref m) lo hi S Q = opt (lstAt S m) fun xs => Q (.lst (cutD xs lo hi)) S := rfl
theorem v_flt_non  : A.flt (D.non) = true := rfl
theorem v_flt_bl (b : Bool) : A.flt (D.bl b) = true := rfl
theorem v_flt_int (i : Int) : A.flt (D.int i) = true := rfl
theorem v_flt_str (x : Str) : A.flt (D.str x) = true := rfl
theorem v_flt_tup (xs : List D) : A.flt (D.tup xs) = false := rfl
theorem v_flt_lst (xs : List D) : A.flt (D.lst xs) = false := rfl
theorem v_flt_obj (C : Str) (ns : List Str) (vs : List D) : A.flt (D.obj C ns vs) = false := rfl
theorem v_flt_ref (m : Nat) : A.flt (D.ref m) = false := rfl
theorem v_flt_ty (T : String) : A.flt (D.ty T) = false := rfl
theorem v_flt_cl (C : Str) : A.flt (D.cl C) = false := rfl
theorem v_flt_adr (a : Addr) : A.flt (D.adr a) = false := rfl
theorem v_flt_scr (ns : List Int) : A.flt (D.scr ns) = false := rfl
theorem v_eqv1_non_non   : A.eqv1 (D.non) (D.non) = true := rfl
theorem v_eqv1_non_bl  (c : Bool) : A.eqv1 (D.non) (D.bl c) = false := rfl
theorem v_eqv1_non_int  (j : Int) : A.eqv1 (D.non) (D.int j) = false := rfl
theorem v_eqv1_non_str  (y : Str) : A.eqv1 (D.non) (D.str y) = false := rfl
theorem v_eqv1_bl_non (b : Bool)  : A.eqv1 (D.bl b) (D.non) = false := rfl
theorem v_eqv1_bl_bl (b : Bool) (c : Bool) : A.eqv1 (D.bl b) (D.bl c) = (b == c) := rfl
theorem v_eqv1_bl_str (b : Bool) (y : Str) : A.eqv1 (D.bl b) (D.str y) = false := rfl
theorem v_eqv1_int_non (i : Int)  : A.eqv1 (D.int i) (D.non) = false := rfl
theorem v_eqv1_int_int (i : Int) (j : Int) : A.eqv1 (D.int i) (D.int j) = (i == j) := rfl
theorem v_eqv1_int_str (i : Int) (y : Str) : A.eqv1 (D.int i) (D.str y) = false := rfl
theorem v_eqv1_str_non (x : Str)  : A.eqv1 (D.str x) (D.non) = false := rfl
theorem v_eqv1_str_bl (x : Str) (c : Bool) : A.eqv1 (D.str x) (D.bl c) = false := rfl
theorem v_eqv1_str_int (x : Str) (j : Int) : A.eqv1 (D.str x) (D.int j) = false := rfl
theorem v_eqv1_str_str (x : Str) (y : Str) : A.eqv1 (D.str x) (D.str y) = (x == y) := rfl
theorem atD {α : Type} {xs : List α} {j : Nat} {x : α} (h : xs[j]? = some x) : atI xs (j : Int) = some x := by
  have hj : j < xs.length := (List.getElem?_eq_some_iff.mp h).1
  unfold atI ixN
  rw [if_pos (Int.natCast_nonneg j), if_pos (by omega)]
  simpa using h
theorem v_at0 {α : Type} (a0 : α) (r : List α) : atI (a0 :: r) 0 = some a0 := atD (j := 0) rfl
theorem v_at1 {α : Type} (a0 a1 : α) (r : List α) : atI (a0 :: a1 :: r) 1 = some a1 := atD (j := 1) rfl
theorem v_at2 {α : Type} (a0 a1 a2 : α) (r : List α) : atI (a0 :: a1 :: a2 :: r) 2 = some a2 := atD (j := 2) rfl
theorem v_at3 {α : Type} (a0 a1 a2 a3 : α) (r : List α) : atI (a0 :: a1 :: a2 :: a3 :: r) 3 = some a3 := atD (j := 3) rfl
theorem v_at4 {α : Type} (a0 a1 a2 a3 a4 : α) (r : List α) : atI (a0 :: a1 :: a2 :: a3 :: a4 :: r) 4 = some a4 := atD (j := 4) rfl
theorem v_at5 {α : Type} (a0 a1 a2 a3 a4 a5 : α) (r : List α) : atI (a0 :: a1 :: a2 :: a3 :: a4 :: a5 :: r) 5 = some a5 := atD (j := 5) rfl
theorem v_at6 {α : Type} (a0 a1 a2 a3 a4 a5 a6 : α) (r : List α) : atI (a0 :: a1 :: a2 :: a3 :: a4 :: a5 :: a6 :: r) 6 = some a6 := atD (j := 6) rfl
theorem v_atm1 {α : Type} (xs : List α) (a : α) : atI (xs ++ [a]) (-1) = some a := by
  have e : ixN (xs ++ [a]).length (-1) = some xs.length := by
    simp [ixN]
    omega
  unfold atI
  rw [e]
  simp
theorem eqv_nil (xs : List D) : eqD (.tup xs) (.tup []) = decide (xs = []) := by
  cases xs with
  | nil => rfl
  | cons x xs => rfl
theorem v_k_int : ("int" ∈ tyKnown) = True := by simp [tyKnown]
theorem v_k_bool : ("bool" ∈ tyKnown) = True := by simp [tyKnown]
theorem v_k_str : ("str" ∈ tyKnown) = True := by simp [tyKnown]
theorem v_k_tuple : ("tuple" ∈ tyKnown) = True := by simp [tyKnown]
theorem v_k_list : ("list" ∈ tyKnown) = True := by simp [tyKnown]
theorem v_k_dict : ("dict" ∈ tyKnown) = True := by simp [tyKnown]
theorem v_big (n : Nat) (h : n ≤ 1000000 := by decide) : (n ≤ big) = True := eq_true (Nat.le_trans h (by decide))
theorem v_p10 : Int.natAbs 10 < 2 ^ 64 := by decide
theorem v_b0 : (0 ≤ big) = True := eq_true (by decide)
theorem v_b1 : (1 ≤ big) = True := eq_true (by decide)
theorem v_b2 : (2 ≤ big) = True := eq_true (by decide)
theorem v_b3 : (3 ≤ big) = True := eq_true (by decide)
theorem v_b4 : (4 ≤ big) = True := eq_true (by decide)
theorem v_b5 : (5 ≤ big) = True := eq_true (by decide)
theorem v_b6 : (6 ≤ big) = True := eq_true (by decide)
theorem v_b7 : (7 ≤ big) = True := eq_true (by decide)
theorem v_b8 : (8 ≤ big) = True := eq_true (by decide)
theorem v_b9 : (9 ≤ big) = True := eq_true (by decide)
theorem v_b10 : (10 ≤ big) = True := eq_true (by decide)
theorem v_b11 : (11 ≤ big) = True := eq_true (by decide)
theorem v_b12 : (12 ≤ big) = True := eq_true (by decide)
theorem fsn1 {fs : List D} (h : ((fs.length : Nat) : Int) + 1 = 2) : ∃ x0, fs = [x0] := by
  match fs, h with
  | [x0], _ => exact ⟨x0, rfl⟩
  | [], h => simp at h
  | _ :: _ :: r, h => simp at h; omega
theorem fsn2 {fs : List D} (h : ((fs.length : Nat) : Int) + 1 = 3) : ∃ x0 x1, fs = [x0, x1] := by
  match fs, h with
  | [x0, x1], _ => exact ⟨x0, x1, rfl⟩
  | [], h => simp at h
  | [_], h => simp at h
  | _ :: _ :: _ :: r, h => simp at h; omega
theorem fsn3 {fs : List D} (h : ((fs.length : Nat) : Int) + 1 = 4) : ∃ x0 x1 x2, fs = [x0, x1, x2] := by
  match fs, h with
  | [x0, x1, x2], _ => exact ⟨x0, x1, x2, rfl⟩
  | [], h => simp at h
  | [_], h => simp at h
  | [_, _], h => simp at h
  | _ :: _ :: _ :: _ :: r, h => simp at h; omega
theorem fsn4 {fs : List D} (h : ((fs.length : Nat) : Int) + 1 = 5) : ∃ x0 x1 x2 x3, fs = [x0, x1, x2, x3] := by
  match fs, h with
  | [x0, x1, x2, x3], _ => exact ⟨x0, x1, x2, x3, rfl⟩
  | [], h => simp at h
  | [_], h => simp at h
  | [_, _], h => simp at h
  | [_, _, _], h => simp at h
  | _ :: _ :: _ :: _ :: _ :: r, h => simp at h; omega
theorem fsn5 {fs : List D} (h : ((fs.length : Nat) : Int) + 1 = 6) : ∃ x0 x1 x2 x3 x4, fs = [x0, x1, x2, x3, x4] := by
  match fs, h with
  | [x0, x1, x2, x3, x4], _ => exact ⟨x0, x1, x2, x3, x4, rfl⟩
  | [], h => simp at h
  | [_], h => simp at h
  | [_, _], h => simp at h
  | [_, _, _], h => simp at h
  | [_, _, _, _], h => simp at h
  | _ :: _ :: _ :: _ :: _ :: _ :: r, h => simp at h; omega
theorem v_al1 {α : Type} (a0 : α) : atI [a0] (-1) = some a0 := rfl
theorem v_al2 {α : Type} (a0 a1 : α) : atI [a0, a1] (-1) = some a1 := rfl
theorem v_al3 {α : Type} (a0 a1 a2 : α) : atI [a0, a1, a2] (-1) = some a2 := rfl
theorem v_al4 {α : Type} (a0 a1 a2 a3 : α) : atI [a0, a1, a2, a3] (-1) = some a3 := rfl
theorem v_al5 {α : Type} (a0 a1 a2 a3 a4 : α) : atI [a0, a1, a2, a3, a4] (-1) = some a4 := rfl
theorem v_al6 {α : Type} (a0 a1 a2 a3 a4 a5 : α) : atI [a0, a1, a2, a3, a4, a5] (-1) = some a5 := rfl
theorem v_al7 {α : Type} (a0 a1 a2 a3 a4 a5 a6 : α) : atI [a0, a1, a2, a3, a4, a5, a6] (-1) = some a6 := rfl
theorem v_dMul_tup (xs : List D) (e : D) (S : Sto) (Q : QD) : A.dMul (.tup xs) e S Q = opt (asI e) fun j => (xs ≠ [] ∧ 2 ≤ j ∧ j ≤ 1000 ∧ xs.length ≤ 1000) ∧ Q (.tup (repD xs j)) S := rfl
theorem v_lst_push (S : Sto) (xs : List D) : lstAt (S ++ [.lst xs]) S.length = some xs := by simp [lstAt]
theorem v_ins_push (S : Sto) (C : Str) (fs : List (Str × D)) : insAt (S ++ [.ins C fs]) S.length C = some fs := by simp [insAt]
theorem v_insOf_push (S : Sto) (C : Str) (fs : List (Str × D)) : insOf (S ++ [.ins C fs]) (.ref S.length) C = some fs := by simp [insOf]
theorem v_set_push (S : Sto) (o o' : O) : (S ++ [o]).set S.length o' = S ++ [o'] := by simp
end A

set_option Elab.async false
set_option linter.all false
set_option maxRecDepth 100000
set_option maxHeartbeats 4000000
namespace A
open PySem PySem.Spec PyProof.Rows L2
/-- a loop, by what holds of the items that are left -/
theorem forX_by {g : AG} {tb : AS} {De : EndsA} (Pv : List D → Ev → Sto → Prop) (hn : ∀ ρ S, Pv [] ρ S → De.nx ρ S)
    (hc : ∀ x r ρ S, Pv (x :: r) ρ S → ∀ F : Ev → Sto → Prop, (∀ ρ' S', Pv r ρ' S' → F ρ' S') → g x ρ fun ρ1 => tb { De with nx := F, ct := F, bk := De.nx } ρ1 S) :
    ∀ {xs : List D} {ρ : Ev} {S : Sto}, Pv xs ρ S → forX g tb De xs ρ S
  | [], ρ, S, h => hn ρ S h
  | x :: r, ρ, S, h => hc x r ρ S h _ fun ρ' S' h' => forX_by Pv hn hc h'
/-- a comprehension -/
theorem lcX_by {g : AG} {tt : AM Bool} {te : AM D} {ρ : Ev} {Q : List D → Sto → Prop} (Pv : List D → List D → Sto → Prop) (hn : ∀ acc S, Pv [] acc S → Q acc S)
    (hc : ∀ x r acc S, Pv (x :: r) acc S → ∀ F : List D → Sto → Prop, (∀ acc' S', Pv r acc' S' → F acc' S') → g x ρ fun ρ2 => tt ρ2 S (fun b S3 => if b = true then te ρ2 S3 (fun y S4 => acc.length < big ∧ F (acc ++ [y]) S4) (fun _ _ => False) else F acc S3) fun _ _ => False) :
    ∀ {xs acc : List D} {S : Sto}, Pv xs acc S → lcX g tt te ρ Q xs acc S
  | [], acc, S, h => hn acc S h
  | x :: r, acc, S, h => hc x r acc S h (fun acc' S' => lcX g tt te ρ Q r acc' S') fun acc' S' h' => lcX_by Pv hn hc h'
/-- a comprehension whose items are told by a function and leave the row as it is -/
theorem lcX_map {g : AG} {tt : AM Bool} {te : AM D} {ρ : Ev} {Q : List D → Sto → Prop} {S : Sto} (p : D → Bool) (f : D → D) {xs : List D} (hl : xs.length ≤ 1000000)
    (h : ∀ x ∈ xs, ∀ (Y : D → Sto → Prop) (F : Sto → Prop), (p x = true → Y (f x) S) → (p x = false → F S) → g x ρ fun ρ2 => tt ρ2 S (fun b S3 => if b = true then te ρ2 S3 Y (fun _ _ => False) else F S3) fun _ _ => False)
    (q : Q ((xs.filter p).map f) S) : lcX g tt te ρ Q xs [] S := by
  refine lcX_by (fun r acc S' => S' = S ∧ (∀ x ∈ r, x ∈ xs) ∧ acc.length + r.length ≤ xs.length ∧ Q (acc ++ (r.filter p).map f) S) ?_ ?_ ⟨rfl, fun _ h => h, by simp, by simpa using q⟩
  · rintro acc S' ⟨rfl, _, _, q⟩
    simpa using q
  · rintro x r acc S' ⟨rfl, hm, hle, q⟩ F hF
    refine h x (hm x (by simp)) _ _ (fun hp => ⟨?_, hF _ _ ⟨rfl, fun y hy => hm y (by simp [hy]), ?_, ?_⟩⟩) (fun hp => hF _ _ ⟨rfl, fun y hy => hm y (by simp [hy]), ?_, ?_⟩)
    · have : acc.length < 1000001 := by simp at hle; omega
      exact Nat.lt_of_lt_of_le this (by decide)
    · simp at hle ⊢; omega
    · simpa [List.filter_cons, hp] using q
    · simp at hle; omega
    · simpa [List.filter_cons, hp] using q
theorem filter_all {xs : List D} : xs.filter (fun _ => true) = xs := List.filter_eq_self.mpr fun _ _ => rfl
/-- what the law's caller gives -/
def spTop (K : PySem.W.Frag) : Sp := fun vs H Q _ => ∃ (a : Addr) (ns : List Int), vs = [.ref a] ∧ Only H ∧ SqL K H a (ns.map V.int) ∧ ns.length ≤ 63 ∧ ∀ H', Q (.bl true) H'
theorem top_of {K : PySem.W.Frag} {cA : Str → Addr} {sp : ASp} (hs : ∀ (ns : List Int) (S : Sto) (Q : QD) (E : XQ), ns.length ≤ 63 → (∀ S', Q (.bl true) S') → sp [.scr ns] S Q E) {vs : List V} {H : Hp} {Q : VK} {E : XK} (h : spTop K vs H Q E) : upSp ⟨K, cA⟩ sp vs H Q E := by
  obtain ⟨a, ns, rfl, hO, hS, hl, hq⟩ := h
  refine ⟨⟨fun _ => False, fun _ => 0⟩, [], [.scr ns], fun d _ => d = .bl true, fun _ _ => False, ⟨fun n hn => by simp at hn, fun a z => z.elim, fun n m hn => by simp at hn, fun n o z => by simp at z⟩, .cons (.scr (hS.imp (fun z => ⟨z, fun y => y⟩) fun z => z)) .nil, hs ns [] _ _ hl fun _ => rfl, ?_, fun w' S' H' x cls d _ _ _ z => z.elim⟩
  rintro w' S' H' d v s f r rfl
  cases r
  exact hq H'
end A

set_option Elab.async false
set_option linter.all false
set_option maxRecDepth 100000
set_option maxHeartbeats 4000000
/-! with, whose block may raise: own managers -/
namespace A
open PySem PySem.Spec PyProof.Rows L2
section
variable {prog : Program} {w : World} {A : Around} {E : Value → Shared → Prop} {s : Shared} {env : Env} {K : PySem.W.Frag} {x C fe fx : Addr} {ox : Obj} {od : Option Obj} {pos : Pos}
/-- behind a raised error that was noted: __exit__, then on it goes -/
def ExitR (prog : Program) (w : World) (A : Around) (E : Value → Shared → Prop) (env : Env) (x fx : Addr) (Q : Flow → Shared → Prop) (e : Value) (s : Shared) : Prop :=
  wpAny (model prog w) A (typeOf e) (fun c s1 => wpAny (model prog w) A (tracebackOf e) (fun t s2 => wpAny (model prog w) A (run (.call (.ref fx) ⟨[.ref x, c, e, t], []⟩) (some e))
    (fun f s3 => f = .ret .none ∧ wpAny (model prog w) A (passOn "with" e env : Sem Flow) Q E s3) E s2) E s1) E s
theorem withX {bdy : Sem Flow} {Q : Flow → Shared → Prop} (X : K.In s.heap) (I : PySem.W.InstAt s.heap x ox C od) (he : PySem.W.findIn K (.ref C) "__enter__" = some (some (.ref fe))) (hfe : PySem.W.isFn K (.ref fe) = true)
    (hx : PySem.W.findIn K (.ref C) "__exit__" = some (some (.ref fx))) (hfx : PySem.W.isFn K (.ref fx) = true)
    (h : wpAny (model prog w) A (call (.ref fe) [.ref x]) (fun _ s2 => wpAny (model prog w) A bdy (fun f s4 => wpAny (model prog w) A (call (.ref fx) [.ref x, .none, .none, .none]) (fun _ s5 => Q f s5) E s4)
      (fun e s4 => wpAny (model prog w) A (noteFrame e env) (fun _ s5 => wpAny (model prog w) A (setFlight e none) (fun _ s6 => ExitR prog w A E env x fx Q e s6) E s5) E s4) s2) E s) :
    wpAny (model prog w) A (withItem false pos env (pure (.ref x)) none bdy) Q E s := by
  obtain ⟨cd, hcd, ae⟩ := PySem.W.kw_along he
  obtain ⟨cd', hcd', ax⟩ := PySem.W.kw_along hx
  cases hcd.symm.trans hcd'
  obtain ⟨hh, g, d, tt, os⟩ := s
  have l1 := PySem.W.kw_special (M := model prog w) X I hcd ae
  have l2 := PySem.W.kw_special (M := model prog w) X I hcd ax
  have l3 := PySem.W.bind_fn (M := model prog w) X (.ref x) (beq_iff_eq.mp hfe)
  have l4 := PySem.W.bind_fn (M := model prog w) X (.ref x) (beq_iff_eq.mp hfx)
  have l5 : PySem.W.Looks (model prog w) hh (aMethodOfAnotherBuiltinTypeStops (.ref fe) cd.mro) () := PySem.W.Looks.of_pure rfl
  have l6 : PySem.W.Looks (model prog w) hh (aMethodOfAnotherBuiltinTypeStops (.ref fx) cd.mro) () := PySem.W.Looks.of_pure rfl
  unfold withItem
  refine wpAny_bind (wpAny_pure (wpAny_bind (wpAny_standAt ?_)))
  simp only [Bool.false_eq_true, if_false]
  kw_lk
  refine wpAny_mono h (fun v s2 h2 => ?_) fun _ _ z => z
  kw_lk
  refine wpAny_attempt (PySem.W.kw_held ?_)
  show wpAny _ _ bdy _ _ _
  refine wpAny_mono h2 (fun f s4 h4 => ?_) fun e s4 h4 => ?_
  · kw_lk
    refine wpAny_mono h4 (fun _ s5 h5 => ?_) fun _ _ z => z
    kw_lk
    exact h5
  · refine wpAny_bind (wpAny_mono h4 (fun _ s5 h5 => wpAny_bind (wpAny_mono h5 (fun _ s6 h6 => ?_) fun _ _ z => z)) fun _ _ z => z)
    refine wpAny_bind (wpAny_standAt (wpAny_holding ?_))
    refine wpAny_bind (wpAny_mono h6 (fun c s7 h7 => wpAny_bind (wpAny_mono h7 (fun t s8 h8 => ?_) fun _ _ z => z)) fun _ _ z => z)
    refine wpAny_bind ?_
    unfold withItem.marked
    refine wpAny_bind (wpAny_mono h8 (fun f s9 h9 => ?_) fun _ _ z => z)
    obtain ⟨rfl, h9⟩ := h9
    refine wpAny_pure (wpAny_bind (wpAny_pure (wpAny_bind (wpAny_pure ?_))))
    simp only [Bool.false_eq_true, if_false]
    exact h9
end
/-! ### defs that may be called while an error is handled -/
section
variable {P : Program} {w : World} {K : PySem.W.Frag} {mg : Str → Option Value} {base : Heap} {cA : Str → Addr}
/-- the body's context: nothing is said of a handled error -/
abbrev cxU (P : Program) (w : World) (K : PySem.W.Frag) (mg : Str → Option Value) (base : Heap) (N : List Str) (qual : Str) (scope : Scope) (f : Addr) (cd : Value) (A : Around) (outer : List Env) (s : Shared) (H : Hp) (E : XK) : Cx :=
  { cxOf (L2N.CX P w) P w K mg base N qual scope f cd A outer s H E with calm := false }
def FnU (P : Program) (w : World) (K : PySem.W.Frag) (mg : Str → Option Value) (base : Heap) (k : Nat) (f : Addr) (sp : Sp) : Prop :=
  ∀ (A : Around) (outer : List Env) (s : Shared) (H : Hp) (us : List Value) (vs : List V) (Q : VK) (E : XK), L2H.RoomH k A → Env0 P w K mg base A outer s H → Vals vs us → sp vs H Q E →
    codeAny (model P w) A (.call (.ref f) ⟨us, []⟩) (CR (L2N.CX P w) outer P w H s Q E) s
theorem FnU.fnR {k : Nat} {f : Addr} {sp : Sp} (F : FnU P w K mg base k f sp) : FnR P w K mg base (L2N.CX P w) k f sp := fun A outer s H us vs Q E hr => F A outer s H us vs Q E (L2H.roomH_of hr)
/-- a state that fits a calm context fits the other one -/
theorem inv_U {N : List Str} {qual : Str} {scope : Scope} {f : Addr} {cd : Value} {A A' : Around} {outer : List Env} {s s1 : Shared} {H H1 : Hp} {E : XK} {pins : List (Addr × Obj)} {σ : L2.St} (fr : A.frames = some outer)
    (I : Inv (cxOf (L2N.CX P w) P w K mg base N qual scope f cd A' outer s H E) pins σ H1 s1) : Inv (cxU P w K mg base N qual scope f cd A outer s H E) pins σ H1 s1 := by
  have o := I.ok
  exact ⟨{ mod := o.mod, kind := o.kind, glob := o.glob, blt := o.blt, above := o.above, inj := o.inj, has := o.has, cab := o.cab, hd := fun z => (nomatch z), frames := Around.frames_deeper fr, stk := o.stk, exf := o.exf, bs := o.bs, bsz := o.bsz, noex := o.noex, exfs := o.exfs, funs := o.funs, frf := o.frf },
    I.os, I.bare, I.base, I.loc, I.cell, I.free, I.freeC, I.pin, I.hok, I.len⟩
theorem fnU_of {x qual : Str} {st : Stmt} {f : Addr} {fd : FuncData} {N ps : List Str} {k : Nat} {sp : Sp} (F : FunG K x qual st f fd) (Sc : FnScope N ps (defScope st)) (hb : Binds K fd ps []) (len : ∀ vs H Q E, sp vs H Q E → vs.length = ps.length)
    (hbody : ∀ (cdv : Value) (A : Around) (outer : List Env) (s : Shared) (H : Hp) (vs : List V) (Q : VK) (E : XK), L2H.RoomH k (A.deeper (envOfC qual (defScope st) s.heap.objs.size f cdv)) → sp vs H Q E →
      ∃ t, PSs (cxU P w K mg base N qual (defScope st) f cdv A outer s H E) (defBody st) t ∧ t { nx := fun _ H' => Q .non H', rt := Q } (L2.start N vs) H) : FnU P w K mg base (k + 1) f sp := by
  obtain ⟨oc, od, dV, kV, doc, pm, an, cdv, ct, osl, rfl, lk, hcd⟩ := F.ex
  intro A outer s H us vs Q E hr e0 rv hsp
  have vl : vs.length = ps.length := len _ _ _ _ hsp
  have kin := e0.mod.kin.keeps fun b o e => (e0.bs b o e).1
  have nol := e0.mod.nolimit.keeps fun b o e => (e0.bs b o e).1
  have bt := hb s us kin (by rw [List.append_nil, ← rv.length]; exact vl)
  rw [List.append_nil] at bt
  refine codeAny_call_function hr.depth (kin _ _ lk) rfl Sc.co Sc.gen rfl
    (PySem.W.codeRec_of kin hcd) (bt _ _ _ _ (wpAny_newFunctionEnv_cells Sc.kind ?_ ?_))
  · rintro ⟨n, v⟩ hy
    exact (Sc.par n (List.of_mem_zip hy).1).imp id fun q =>
      ⟨q, PySem.W.cellsFrom_some _ _ _ (.inl q)⟩
  · intro env he s1 ic
    subst he
    obtain ⟨t, ht, hq⟩ := hbody cdv A outer s H vs Q E (hr.deeper _) hsp
    have e1 : Env0 P w K mg base { A with handled := none } outer s H := ⟨e0.frames, e0.mod, e0.bs, e0.bsz, e0.funs, e0.frf, e0.hok, e0.bare⟩
    have I := inv_U e0.frames (inv_start (CX := L2N.CX P w) (E := E) (f := f) (cd := cdv) (qual := qual) Sc (show ({ A with handled := none } : Around).handled = none from rfl) e1 vl rv ic)
    refine ⟨nol.keeps ic.toInCall.keep, codeAny_func (wpAny_mono (ht.run [] s1 (L2.start N vs) H _ I hq) ?_ fun _ _ z => z)⟩
    intro fl s' hs
    rcases fl with _ | _ | _ | u
    · obtain ⟨σ', H', J, q⟩ := hs
      exact ⟨V.non, H', J.os, J.bare, J.base, J.hok, rfl, q⟩
    · exact hs.elim fun _ ⟨_, _, q⟩ => q.elim
    · exact hs.elim fun _ ⟨_, _, q⟩ => q.elim
    · obtain ⟨v, σ', H', J, rv', q⟩ := hs
      exact ⟨v, H', J.os, J.bare, J.base, J.hok, rv', q⟩
theorem defU_ok {x qual : Str} {st : Stmt} {f : Addr} {fd : FuncData} {N ps : List Str} {k : Nat} {sp : ASp} {t : AS} (F : FunG K x qual st f fd) (Sc : FnScope N ps (defScope st)) (hB : Binds K fd ps [])
    (hb : ∀ (cdv : Value) (A : Around) (outer : List Env) (s : Shared) (H : Hp) (E : XK), L2H.RoomH k (A.deeper (envOfC qual (defScope st) s.heap.objs.size f cdv)) →
      JSs (cxU P w K mg base N qual (defScope st) f cdv A outer s H E) ⟨⟨K, cA⟩, none, fun cls d _ H => E cls d H⟩ (defBody st) t)
    (hl : ∀ ds S Q E, sp ds S Q E → ds.length = ps.length) (hv : ∀ ds S Q E, sp ds S Q E → t (defEnds Q E) (startD N ds) S) : FnU P w K mg base (k + 1) f (upSp ⟨K, cA⟩ sp) := by
  refine fnU_of F Sc hB (fun vs H Q E h => ?_) (fun cdv A outer s H vs Q E hr h => ?_)
  · obtain ⟨w, S, ds, Q', E', f, r, ht, _⟩ := h
    rw [← r.len]; exact hl _ _ _ _ ht
  · obtain ⟨w, S, ds, Q', E', f, r, ht, hq, he⟩ := h
    exact ⟨_, hb cdv A outer s H E hr, w, _, S, defEnds Q' E', ⟨f, relE_start r, trivial⟩, hv ds S Q' E' ht,
      ⟨fun w' ρ' S' σ' H' s' st' q => hq w' S' H' .non .non s' st'.wf .non q, hq, fun _ _ _ _ _ _ _ z => z, fun _ _ _ _ _ _ _ z => z, fun w' ρ' S' σ' H' x cls d s' st' rx q => he w' S' H' x cls d s' st'.wf rx q⟩⟩
end
end A

set_option Elab.async false
set_option linter.all false
set_option maxRecDepth 100000
set_option maxHeartbeats 4000000
/-! with, whose block may raise: the rule -/
namespace A
open PySem PySem.Spec PyProof.Rows L2
def nev : XK := fun _ _ _ => False
/-- the manager class at C: what its __enter__ and __exit__ promise -/
structure Mgr (P : Program) (w : World) (K : PySem.W.Frag) (mg : Str → Option Value) (base : Heap) (k : Nat) (C : Addr) (spE spX : Sp) : Prop where
  ex : ∃ fe fx, PySem.W.findIn K (.ref C) "__enter__" = some (some (.ref fe)) ∧ PySem.W.isFn K (.ref fe) = true ∧ PySem.W.findIn K (.ref C) "__exit__" = some (some (.ref fx)) ∧ PySem.W.isFn K (.ref fx) = true ∧
    FnR P w K mg base (L2N.CX P w) k fe spE ∧ FnU P w K mg base k fx spX
/-- the ends of the block: __exit__ first -/
def dExit (x : V) (spX : Sp) (D : Ends) : Ends :=
  ⟨fun σ H => spX [x, .non, .non, .non] H (fun _ H' => D.nx σ H') nev, fun v H => spX [x, .non, .non, .non] H (fun _ H' => D.rt v H') nev,
   fun σ H => spX [x, .non, .non, .non] H (fun _ H' => D.bk σ H') nev, fun σ H => spX [x, .non, .non, .non] H (fun _ H' => D.ct σ H') nev⟩
def wExit (x : V) (spX : Sp) (Wo : WX) : WX := fun cls d σ H => ∃ c, cls = .ref c ∧ ∀ (e : Addr) (t : V), (t = .non ∨ ∃ T, t = .ref T) → spX [x, .ref c, .ref e, t] H (fun v H' => v = .non ∧ Wo cls d σ H') nev
def tWithX (C : Addr) (spE spX : Sp) (Wo : WX) (te : TE) (tb : WX → TS) : TS := fun D σ H => te σ H fun x H1 => ∃ a dx fs, x = .ref a ∧ H1 a = some (.ins C dx fs) ∧ spE [x] H1 (fun _ H2 => tb (wExit x spX Wo) (dExit x spX D) σ H2) nev
section
variable {X : Cx} {C x fx : Addr} {spE spX : Sp} {Wo : WX} {k : Nat} {pins : List (Addr × Obj)}
theorem noX {outer : List Env} {H : Hp} {s s' : Shared} {P : Program} {w : World} {e : Value} (h : L2N.CX P w outer H s nev e s') : False := by
  obtain ⟨_, _, _, _, _, _, _, _, _, _, _, _, z⟩ := h
  exact z
theorem roomM {A : Around} {h : Option Value} (r : L2H.RoomH k A) : L2H.RoomH k (A.mark h) := ⟨r.dp, r.un⟩
/-- the call of __exit__ behind a calm block -/
theorem exit_calm {σ : L2.St} {H : Hp} {s : Shared} {Q : V → Hp → Prop} {G : Value → Shared → Prop} (Fx : FnU X.prog X.w X.K X.mg X.base k fx spX) (hr : L2H.RoomH k X.A) (I : Inv X pins σ H s)
    (h : spX [.ref x, .non, .non, .non] H Q nev) (hG : ∀ v u H' s', Inv X pins σ H' s' → RelV v u → Q v H' → G u s') :
    wpAny (model X.prog X.w) X.A (call (.ref fx) [.ref x, .none, .none, .none]) G X.xe s := by
  refine wpAny_call (codeAny_mono (Fx X.A X.stack s H _ [.ref x, .non, .non, .non] Q nev hr I.env0 (.cons rfl (.cons rfl (.cons rfl (.cons rfl .nil)))) h) fun r s' hq => ?_)
  rcases r with e | fl
  · exact (noX hq).elim
  · rcases fl with _ | _ | _ | u
    · exact hq.elim
    · exact hq.elim
    · exact hq.elim
    · obtain ⟨v, H', J, rv, q⟩ := I.after hq
      exact hG v u H' s' J rv q
theorem exit_exc {D : Ends} {u : Value} {s' : Shared} {xe0 : Value → Shared → Prop} (hs : X.stack = X.env :: X.outer) (hf : X.env.frame = some X.env.locals) (hex : X.ex = []) (ok : X.Ok) (tk : L2N.Takes X Wo)
    (Fx : FnU X.prog X.w X.K X.mg X.base k fx spX) (hr : L2H.RoomH k X.A) (xx : L2N.XE (X.tr (X.pn ++ pins) xe0) (wExit (.ref x) spX Wo) u s') :
    wpAny (model X.prog X.w) X.A (noteFrame u X.env) (fun _ s5 => wpAny (model X.prog X.w) X.A (setFlight u none) (fun _ s6 => ExitR X.prog X.w X.A X.xe X.env x fx (SP X pins D) u s6) X.xe s5) X.xe s' := by
  have hfr : X.A.frames = some (X.env :: X.outer) := by
    rw [ok.frames, hs]
  obtain ⟨a, B, sI, pins', σ1, H1, cls, d, eu, J', nb, up, sky, na, os, ag, hw⟩ := xx
  subst eu
  have J : Inv X pins σ1 H1 sI := J'.ofTry ok
  have skyE : Sky B (X.env :: X.outer) a (L2N.Zn cls d) X.env.locals s'.heap := hs ▸ sky
  refine L2N.Sky.land L2N.Zn.steady hfr hf skyE fun h3 fl3 up3 => ?_
  have J3 : Inv X pins σ1 H1 { s' with heap := h3 } := J.landed nb fl3.1 (up.trans up3) os ag
  obtain ⟨k1, k2, k3, oe, vs, T, oT, ts, eA, hz, hd, hv1, hnT, hTe, eT, hdT, ht3⟩ := id fl3
  have nT : H1 T = none := (J.inGround nb).gone hnT
  have noFrame : ∀ (b : Addr) (o : Obj) (fv : Array Value), h3.get? b = some o → o.data = .fields fv → b ∉ frs (X.env :: X.outer) := by
    intro b o fv e dd hm
    obtain ⟨_, o2, e2, hnf⟩ := k3.mem hm
    cases Option.some.inj (e.symm.trans e2)
    exact hnf _ dd
  have inL : X.env.locals ∈ frs (X.env :: X.outer) :=
    List.mem_filterMap.mpr ⟨X.env, List.mem_cons_self, hf⟩
  have inF : ∀ b, b ∈ X.fs → b ∈ frs (X.env :: X.outer) := by
    intro b hm
    obtain ⟨e, he, q⟩ := List.mem_filterMap.mp hm
    exact List.mem_filterMap.mpr ⟨e, List.mem_cons_of_mem _ he, q⟩
  have fA := noFrame a oe vs eA hd
  have fT := noFrame T oT ts eT hdT
  have pinOf : ∀ (b : Addr) (o : Obj) (fv : Array Value), h3.get? b = some o → o.data = .fields fv → H1 b = none → b ∉ frs (X.env :: X.outer) → h3.get? b = some o ∧ H1 b = none ∧ b ≠ X.env.locals ∧ b ∉ X.fs ∧ ∀ v, o.data ≠ .cell v := by
    intro b o fv e dd hn nf
    refine ⟨e, hn, fun z => nf (z ▸ inL), fun z => nf (inF b z), fun v z => ?_⟩
    rw [dd] at z
    cases z
  have S3 : Inv (X.suite a ((a, oe) :: (T, oT) :: (X.pn ++ pins))) [] σ1 H1 { s' with heap := h3 } := by
    refine ⟨J3.ok.suite _ _, J3.os, J3.bare, J3.base, J3.loc, J3.cell, J3.free, J3.freeC, fun p hp => ?_, J3.hok, J3.len⟩
    simp only [List.append_nil, List.mem_cons] at hp
    rcases hp with rfl | rfl | hp
    · exact pinOf a oe vs eA hd na fA
    · exact pinOf T oT ts eT hdT nT fT
    · exact J3.pin p hp
  obtain ⟨c, rfl, hw⟩ := hw
  unfold ExitR
  refine wpAny_typeOf_ref eA ?_
  rw [hz.1]
  -- what the traceback is told as
  have tbk : ∀ {G : Value → Shared → Prop}, (∀ (t : V) (u : Value), (t = .non ∨ ∃ T, t = .ref T) → RelV t u → G u { s' with heap := h3 }) → wpAny (model X.prog X.w) X.A (tracebackOf (.ref a)) G X.xe { s' with heap := h3 } := by
    intro G hG
    unfold tracebackOf
    refine wpAny_bind (wpAny_field eA hd hv1 ?_)
    have l1 : 1 < ts.size := Nat.lt_of_succ_lt (Nat.lt_of_succ_lt (Array.getElem?_eq_some_iff.mp ht3).1)
    have e1 : ts[1]? = some ts[1] := Array.getElem?_eq_some_iff.mpr ⟨l1, rfl⟩
    dsimp only
    refine wpAny_bind (wpAny_field eT hdT e1 ?_)
    split
    · exact wpAny_pure (hG .non .none (.inl rfl) rfl)
    · exact wpAny_pure (hG (.ref T) (.ref T) (.inr ⟨T, rfl⟩) rfl)
  refine tbk fun t u ht rt => ?_
  refine wpAny_run (codeAny_mono (Fx (X.A.mark (some (.ref a))) X.stack _ H1 [.ref x, .ref c, .ref a, u] [.ref x, .ref c, .ref a, t] _ nev (roomM hr) S3.env0 (.cons rfl (.cons rfl (.cons rfl (.cons rt .nil)))) (hw a t ht)) fun r s6 hq => ?_)
    (fun z => ref_ne_byPass a (Option.some.inj z))
  rcases r with e | fl
  · exact (noX hq).elim
  rcases fl with _ | _ | _ | u6
  · exact hq.elim
  · exact hq.elim
  · exact hq.elim
  obtain ⟨v6, H6, S6, rv6, ev6, q6⟩ := S3.after hq
  subst ev6
  obtain rfl : u6 = Value.none := rv6
  refine ⟨rfl, ?_⟩
  have J6 : Inv X pins σ1 H6 s6 := by
    refine ⟨ok, S6.os, S6.bare, S6.base, S6.loc, S6.cell, S6.free, S6.freeC, fun p hp => ?_, S6.hok, S6.len⟩
    exact S6.pin p (List.mem_append_left _ (List.mem_cons_of_mem _ (List.mem_cons_of_mem _ hp)))
  have pA := S6.pin (a, oe) (by simp)
  have pT := S6.pin (T, oT) (by simp)
  have far : ∀ b o, sI.heap.get? b = some o → b ≠ a ∧ b ≠ T := by
    intro b o e
    by_cases hb : b ∈ frs X.stack
    · rw [hs] at hb
      exact ⟨fun z => fA (z ▸ hb), fun z => fT (z ▸ hb)⟩
    · have q := nb b o e hb
      refine ⟨fun z => ?_, fun z => ?_⟩
      · rw [z, k2] at q; cases q
      · rw [z, hnT] at q; cases q
  obtain ⟨G, g1, g2⟩ := restrict s6.heap fun b => !(decide (b = a) || decide (b = T))
  have gIn : ∀ b o, G.get? b = some o → s6.heap.get? b = some o ∧ b ≠ a ∧ b ≠ T := by
    intro b o e
    by_cases z1 : b = a
    · rw [g2 b (by simp [z1])] at e; cases e
    · by_cases z2 : b = T
      · rw [g2 b (by simp [z2])] at e; cases e
      · rw [g1 b (by simp [z1, z2])] at e
        exact ⟨e, z1, z2⟩
  have gOf : ∀ b o, b ≠ a → b ≠ T → s6.heap.get? b = some o → G.get? b = some o := by
    intro b o n1 n2 e
    rw [g1 b (by simp [n1, n2]), e]
  have I6 : Inv X pins σ1 H6 { s6 with heap := G } := by
    refine J6.less (fun b o e => (gIn b o e).1) gOf ⟨oe, vs, pA.1, hd⟩ ⟨oT, ts, pT.1, hdT⟩ pA.2.1 pT.2.1 (fun b o e => ?_) (fun p hp => far p.1 p.2 (J.pin p hp).1)
    obtain ⟨o2, q⟩ := J.base.there b o e (by rw [hex]; simp)
    exact far b o2 q
  have none6 : ∀ b, (b = a ∨ b = T) → (PySem.W.hideAll G (frs X.stack)).get? b = none := by
    intro b hb
    cases q : (PySem.W.hideAll G (frs X.stack)).get? b with
    | none => rfl
    | some o =>
      have := gIn b o (PySem.W.of_hideAll _ q)
      exact (hb.elim this.2.1 this.2.2).elim
  have ff := funFrames_none (B := PySem.W.hideAll G (frs X.stack)) J6.stack fun b hb => PySem.W.hideAll_none _ hb
  have fl6 : HandSPX.FlyingZ (PySem.W.hideAll G (frs X.stack)) (X.env :: X.outer) a (L2N.Zn (.ref c) d) s6.heap :=
    ⟨fun b o e => (gIn b o (PySem.W.of_hideAll _ e)).1, none6 a (.inl rfl), hs ▸ ff, oe, vs, T, oT, ts, pA.1, hz, hd, hv1, none6 T (.inr rfl), hTe, pT.1, hdT, ht3⟩
  unfold PySem.passOn
  refine wpAny_bind (wpAny_field pA.1 hd hv1 ?_)
  rw [if_neg (show ¬ (Value.ref T == Value.none) = true by simp)]
  have goOn : wpAny (model X.prog X.w) X.A (setFlight (.ref a) X.env.frame) (fun _ s7 => wpAny (model X.prog X.w) X.A (throw (.ref a) : Sem Flow) (SP X pins D) X.xe s7) X.xe s6 := by
    rw [hf]
    refine HandSPX.setFlight_upZ fl6 fun h7 hh7 up7 => wpAny_throw (tk _ _ ⟨a, PySem.W.hideAll G (frs X.stack), { s6 with heap := G }, pins, σ1, H6, .ref c, d, rfl, I6, fun b o e hb => PySem.W.hideAll_get _ e hb, ?_, .inr (.inr (hs.symm ▸ hh7)), pA.2.1, rfl, J6.bare, q6⟩)
    exact Heap.UpToSlots.trans (Heap.UpToSlots.of_keeps fun b o e => (gIn b o e).1) up7
  first
    | exact wpAny_bind goOn
    | exact wpAny_bind (wpAny_pure (wpAny_bind goOn))
theorem ps_withX {ctx : Expr} {body : List Stmt} {te : TE} {tb : WX → TS} {pos : Pos} (hs : X.stack = X.env :: X.outer) (hf : X.env.frame = some X.env.locals) (hex : X.ex = []) (tk : L2N.Takes X Wo)
    (M : Mgr X.prog X.w X.K X.mg X.base k C spE spX) (hr : Room k X.A) (he : PE X ctx te)
    (hb : ∀ (W : WX) (pn : List (Addr × Obj)) (xe : Value → Shared → Prop), L2N.Takes (X.tr pn xe) W → PassesOwn (model X.prog X.w) X.A X.env xe → PSs (X.tr pn xe) body (tb W)) :
    PS X (.With [⟨ctx, none⟩] body pos) (tWithX C spE spX Wo te tb) := by
  refine ⟨fun pins s σ H D I h => ?_⟩
  have ok := I.ok
  obtain ⟨fe, fx, e1, e2, e3, e4, Fe, Fx⟩ := M.ex
  refine PySem.W.kw_exec0 (thn (he.run pins s σ H _ I h) fun u s1 ⟨v, H1, I1, rv, a, dx, fs, ev, ea, q⟩ => ?_)
  subst ev
  obtain rfl : u = Value.ref a := rv
  unfold PySem.W.KwIn
  obtain ⟨mA, O, _⟩ := ins_get I1.hok ea
  obtain ⟨od, J, _⟩ := O.look
  refine withX I1.kIn J e1 e2 e3 e4 ?_
  refine wpAny_call (codeAny_mono (Fe X.A X.stack s1 H1 [.ref a] [.ref a] _ nev hr I1.env0 (.cons rfl .nil) q) fun r s2 hq => ?_)
  rcases r with e | fl
  · exact (noX hq).elim
  rcases fl with _ | _ | _ | u2
  · exact hq.elim
  · exact hq.elim
  · exact hq.elim
  obtain ⟨v2, H2, I2, _, q2⟩ := I1.after hq
  refine wpAny_mono ((hb (wExit (.ref a) spX Wo) (X.pn ++ pins) (fun e s4 => wpAny (model X.prog X.w) X.A (noteFrame e X.env) (fun _ s5 => wpAny (model X.prog X.w) X.A (setFlight e none)
      (fun _ s6 => ExitR X.prog X.w X.A X.xe X.env a fx (SP X pins D) e s6) X.xe s5) X.xe s4) (fun u s' xx => exit_exc hs hf hex ok tk Fx (L2H.roomH_of hr) xx) PassesOwn.looking).run [] s2 σ H2 (dExit (.ref a) spX D) (I2.toTry _) q2) (fun f s4 hsp => ?_) fun _ _ z => z
  cases f with
  | next =>
    obtain ⟨σ', H', J', q⟩ := hsp
    exact exit_calm Fx (L2H.roomH_of hr) (J'.ofTry ok) q fun v u H'' s' K' _ z => ⟨σ', H'', K', z⟩
  | brk =>
    obtain ⟨σ', H', J', q⟩ := hsp
    exact exit_calm Fx (L2H.roomH_of hr) (J'.ofTry ok) q fun v u H'' s' K' _ z => ⟨σ', H'', K', z⟩
  | cont =>
    obtain ⟨σ', H', J', q⟩ := hsp
    exact exit_calm Fx (L2H.roomH_of hr) (J'.ofTry ok) q fun v u H'' s' K' _ z => ⟨σ', H'', K', z⟩
  | ret u =>
    obtain ⟨v, σ', H', J', r, q⟩ := hsp
    exact exit_calm Fx (L2H.roomH_of hr) (J'.ofTry ok) q fun _ _ H'' s' K' _ z => ⟨v, σ', H'', K', r, z⟩
end
/-! the same over trees -/
section
variable {X : Cx} {n : Cn} {C : Str} {spE spX : ASp} {k : Nat}
/-- with e: the block's ends pass __exit__ -/
def xEnds (d : D) (spX : ASp) (De : EndsA) : EndsA :=
  ⟨fun ρ S => spX [d, .non, .non, .non] S (fun _ S' => De.nx ρ S') (fun _ _ => False), fun v S => spX [d, .non, .non, .non] S (fun _ S' => De.rt v S') (fun _ _ => False),
   fun ρ S => spX [d, .non, .non, .non] S (fun _ S' => De.bk ρ S') (fun _ _ => False), fun ρ S => spX [d, .non, .non, .non] S (fun _ S' => De.ct ρ S') (fun _ _ => False),
   fun x ρ S => ∀ (e : Addr) (t : D), (t = .non ∨ ∃ T, t = .adr T) → spX [d, .cl x.C, .adr e, t] S (fun v S' => v = .non ∧ De.ex x ρ S') (fun _ _ => False)⟩
def sWith (C : Str) (spE spX : ASp) (te : AM D) (tb : AS) : AS := sBind te fun d De ρ S => opt (insOf S d C) fun _ => spE [d] S (fun _ S' => tb (xEnds d spX De) ρ S') (fun _ _ => False)
theorem js_with {ctx : Expr} {body : List Stmt} {te : AM D} {tb : AS} {pos : Pos} (hs : X.stack = X.env :: X.outer) (hf : X.env.frame = some X.env.locals) (hex : X.ex = []) (tk : L2N.Takes X n.W)
    (M : Mgr X.prog X.w X.K X.mg X.base k (n.c.cA C) (upSp n.c spE) (upSp n.c spX)) {r : Nat} (hr : Room r X.A) (hk : k ≤ r) (he : JE X n ctx te)
    (hb : ∀ (W : WX) (pn : List (Addr × Obj)) (xe : Value → Shared → Prop), L2N.Takes (X.tr pn xe) W → PassesOwn (model X.prog X.w) X.A X.env xe → JSs (X.tr pn xe) ⟨n.c, n.g, W⟩ body tb) :
    JS X n (.With [⟨ctx, none⟩] body pos) (sWith C spE spX te tb) := by
  refine PS.imp (ps_withX hs hf hex tk M (hr.mono hk) he hb) fun De σ H h => ?_
  obtain ⟨w, ρ, S, D', st, h, kk⟩ := h
  refine up.mono (sW.bind (r := Rel n.c) st h kk) fun v H1 z => ?_
  obtain ⟨w1, S1, d, st1, s1, rd, h, kk⟩ := z
  obtain ⟨fs, ei, h⟩ := opt_some h
  obtain ⟨a, dx, fs', rfl, ea, _, _⟩ := insOf_rel st1.wf ei rd
  refine ⟨a, dx, fs', rfl, ea, w1, S1, [d], _, _, st1.wf, .cons rd .nil, h, fun w2 S2 H2 d2 v2 s2 f2 _ h2 => ?_, fun _ _ _ _ _ _ _ _ _ z => z.elim⟩
  have st2 := st1.step s2 f2
  have rd2 := rd.stp s2
  refine ⟨w2, ρ, S2, _, st2, h2, ⟨?_, ?_, ?_, ?_, ?_⟩⟩
  · intro w' ρ' S' σ' H' s' st' q
    exact ⟨w', S', [d, .non, .non, .non], _, _, st'.wf, .cons (rd2.stp s') (.cons .non (.cons .non (.cons .non .nil))), q, fun w3 S3 H3 d3 v3 s3 f3 _ q3 => kk.nx w3 ρ' S3 σ' H3 ((s2.trans s').trans s3) (st'.step s3 f3) q3, fun _ _ _ _ _ _ _ _ _ z => z.elim⟩
  · intro w' S' H' d' v' s' f' r' q
    exact ⟨w', S', [d, .non, .non, .non], _, _, f', .cons (rd2.stp s') (.cons .non (.cons .non (.cons .non .nil))), q, fun w3 S3 H3 d3 v3 s3 f3 _ q3 => kk.rt w3 S3 H3 d' v' ((s2.trans s').trans s3) f3 (r'.stp s3) q3, fun _ _ _ _ _ _ _ _ _ z => z.elim⟩
  · intro w' ρ' S' σ' H' s' st' q
    exact ⟨w', S', [d, .non, .non, .non], _, _, st'.wf, .cons (rd2.stp s') (.cons .non (.cons .non (.cons .non .nil))), q, fun w3 S3 H3 d3 v3 s3 f3 _ q3 => kk.bk w3 ρ' S3 σ' H3 ((s2.trans s').trans s3) (st'.step s3 f3) q3, fun _ _ _ _ _ _ _ _ _ z => z.elim⟩
  · intro w' ρ' S' σ' H' s' st' q
    exact ⟨w', S', [d, .non, .non, .non], _, _, st'.wf, .cons (rd2.stp s') (.cons .non (.cons .non (.cons .non .nil))), q, fun w3 S3 H3 d3 v3 s3 f3 _ q3 => kk.ct w3 ρ' S3 σ' H3 ((s2.trans s').trans s3) (st'.step s3 f3) q3, fun _ _ _ _ _ _ _ _ _ z => z.elim⟩
  · intro w' ρ' S' σ' H' x cls dd s' st' rx q
    refine ⟨_, rx.1, fun e t ht => ?_⟩
    have go : ∀ td : D, (td = .non ∨ ∃ T, td = .adr T) → Rel n.c w' S'.length H' td t → upSp n.c spX [.ref a, .ref (n.c.cA x.C), .ref e, t] H' (fun v H' => v = .non ∧ n.W cls dd σ' H') nev := fun td htd rt =>
      ⟨w', S', [d, .cl x.C, .adr e, td], _, _, st'.wf, .cons (rd2.stp s') (.cons (.cl _) (.cons (.adr _) (.cons rt .nil))), q e td htd, fun w3 S3 H3 d3 v3 s3 f3 r3 q3 => by
        obtain ⟨rfl, q3⟩ := q3
        cases r3
        exact ⟨rfl, kk.ex w3 ρ' S3 σ' H3 x cls dd ((s2.trans s').trans s3) (st'.step s3 f3) (rx.stp s3) q3⟩, fun _ _ _ _ _ _ _ _ _ z => z.elim⟩
    rcases ht with rfl | ⟨T, rfl⟩
    · exact go .non (.inl rfl) .non
    · exact go (.adr T) (.inr ⟨T, rfl⟩) (.adr T)
end
end A

set_option Elab.async false
set_option linter.all false
set_option maxRecDepth 100000
set_option maxHeartbeats 4000000
/-! instances called, len of own, keywords of methods, isinstance of own classes, dict displays -/
namespace A
open PySem PySem.Spec PyProof.Rows L2
theorem nev_passes {X : Cx} : Passes (L2N.CX X.prog X.w) X nev := fun _ _ _ _ _ _ _ h => (noX h).elim
/-! ### f(e, ..), f an instance -/
structure Clb (P : Program) (w : World) (K : PySem.W.Frag) (mg : Str → Option Value) (base : Heap) (k : Nat) (C : Addr) (sp : Sp) : Prop where
  ex : ∃ g, StX.CallO K C g ∧ FnR P w K mg base (L2N.CX P w) k g sp
def aCallO (C : Str) (sp : ASp) (tf : AM D) (t : AM (List D)) : AM D := aBind tf fun d => fun ρ S Q E => opt (insOf S d C) fun _ => aBind t (fun ds => fun _ S Q _ => opt (insOf S d C) fun _ => sp (d :: ds) S Q fun _ _ => False) ρ S Q E
section
variable {X : Cx} {n : Cn} {k r : Nat} {sp : ASp} {C : Str} {fe e o : Expr} {es : List Expr} {tf ta : AM D} {t tk : AM (List D)} {pos apos : Pos} {m : Str}
theorem j_callO (c : Clb X.prog X.w X.K X.mg X.base k (n.c.cA C) (upSp n.c sp)) (hr : Room r X.A) (hk : k ≤ r) (hf : JE X n fe tf) (ha : JA X n (e :: es) t)
    (ht : eval (.Call fe (e :: es) [] pos) X.env = (do callWith pos (← eval fe X.env) [] (backTo pos (starEach (e :: es) X.env)) (backToKw pos (keywordEach [] X.env))) := by rfl)
    (he : starEach (e :: es) X.env = (false, eval e X.env) :: starEach es X.env := by rfl) (hpl : (backTo pos (starEach es X.env)).any (·.1) = false := by rfl) : JE X n (.Call fe (e :: es) [] pos) (aCallO C sp tf t) := by
  obtain ⟨g, co, F⟩ := c.ex
  refine PE.imp (StX.pe_callO hf co F (hr.mono hk) nev_passes ha ht he hpl) fun σ H Q ⟨w, ρ, S, st, h⟩ => ?_
  refine (upW.bind st h).mono ?_
  rintro v H1 ⟨w1, S1, d, st1, s1, r1, Q', E', h1, hq, he⟩
  obtain ⟨fs, ei, h1⟩ := opt_some h1
  obtain ⟨a, dx, fs', rfl, ea, _, _⟩ := insOf_rel st1.wf ei r1
  refine ⟨a, rfl, ?_⟩
  have h1 : upW n.c n.W (Rel n.c) (aBind t (fun ds => fun _ S Q _ => opt (insOf S d C) fun _ => sp (d :: ds) S Q fun _ _ => False)) w1 ρ S1 σ H1 Q := ⟨Q', E', h1, hq, he⟩
  refine (upW.bind st1 h1).mono ?_
  rintro vs H2 ⟨w2, S2, ds, st2, s2, r2, Q2, E2, h2, hq2, _⟩
  obtain ⟨fs2, ei2, h2⟩ := opt_some h2
  obtain ⟨a2, dx2, fs2', e2, ea2, _, _⟩ := insOf_rel st2.wf ei2 (r1.stp s2)
  cases e2
  exact ⟨.inr ⟨dx2, fs2', ea2⟩, w2, S2, d :: ds, Q2, _, st2.wf, .cons (r1.stp s2) r2, h2, hq2, fun _ _ _ _ _ _ _ _ _ z => z.elim⟩
/-! ### len(x), x of an own class -/
structure Lnb (P : Program) (w : World) (K : PySem.W.Frag) (mg : Str → Option Value) (base : Heap) (k : Nat) (C : Addr) (sp : Sp) : Prop where
  ex : ∃ f, PySem.W.findIn K (.ref C) "__len__" = some (some (.ref f)) ∧ PySem.W.isFn K (.ref f) = true ∧ FnR P w K mg base (L2N.CX P w) k f sp
def rLenO (C : Addr) (sp : Sp) : List V → Hp → VK → Prop := fun xs H Q => ∃ a dx fs, xs = [.ref a] ∧ H a = some (.ins C dx fs) ∧ sp [.ref a] H (fun v H' => ∃ i : Int, v = .int i ∧ 0 ≤ i ∧ i < 2 ^ 63 ∧ Q (.int i) H') nev
theorem room_in1 {k r : Nat} {A : Around} (hr : Room r A) (hk : k + 1 ≤ r) : Room k A.in1 := ⟨hr.hd, by have := hr.dp; show A.depth + 3 * k + 5 < _; omega, by have := hr.un; show A.units + 1 + 16 * k + 200 < _; omega⟩
theorem call_lenO {C : Addr} {sp : Sp} (c : Lnb X.prog X.w X.K X.mg X.base k C sp) (hr : Room r X.A) (hk : k + 1 ≤ r) : CallR X (.builtin "len") (rLenO C sp) := by
  intro pins s σ H xs us Q I rv h
  obtain ⟨f, hs, hf, F⟩ := c.ex
  obtain ⟨a, dx, fs, rfl, ea, h⟩ := h
  cases rv with
  | cons r1 r2 =>
    cases r2
    cases r1
    obtain ⟨mA, O, _⟩ := ins_get I.hok ea
    obtain ⟨od, J, _⟩ := O.look
    refine Calls.call_function_entry kind_len plain_len entry_len (args_len1 _) ?_
    unfold Builtin.«len»
    refine wpAny_bind (m := oneArg "len" _) (wpAny_pure ?_)
    refine wpAny_bind (m := callSpecial? (.ref a) (Str.ofString "__len__")) (PySem.W.special_fn I.kIn J hs (beq_iff_eq.mp hf) ?_)
    have e0 : Env0 X.prog X.w X.K X.mg X.base X.A.in1 X.stack s H := ⟨I.env0.frames, I.env0.mod, I.env0.bs, I.env0.bsz, I.env0.funs, I.env0.frf, I.env0.hok, I.env0.bare⟩
    refine wpAny_call (codeAny_mono (F X.A.in1 X.stack s H [.ref a] [.ref a] _ nev (room_in1 hr hk) e0 (.cons rfl .nil) h) fun rr s' hq => ?_)
    rcases rr with e | fl
    · exact (noX hq).elim
    rcases fl with _ | _ | _ | u
    · exact hq.elim
    · exact hq.elim
    · exact hq.elim
    obtain ⟨v, H', I', ru, i, rfl, h0, h1, q⟩ := I.after hq
    obtain ⟨tk, rfl⟩ : ∃ tk, u = .int i tk := ru
    refine wpAny_bind (wpAny_holding (wpAny_pure (wpAny_bind (wpAny_letGo ?_))))
    show wpAny _ _ (if i < 0 then _ else _) _ _ _
    rw [if_neg (Int.not_lt.mpr h0)]
    show wpAny _ _ (if i ≥ 2 ^ 63 then _ else _) _ _ _
    rw [if_neg (Int.not_le.mpr h1)]
    exact wpAny_bind (wpAny_mkInt (wpAny_pure ⟨_, rfl, ⟨.int i, H', I'.tok _, ⟨_, rfl⟩, q⟩⟩))
def fLenO (C : Str) (sp : ASp) : FN := fun ds S Q => opt (one1 ds) fun d => opt (insOf S d C) fun _ => sp [d] S (fun v S' => opt (asI v) fun i => 0 ≤ i ∧ i < 2 ^ 63 ∧ Q (.int i) S') fun _ _ => False
theorem cs_lenO {c : Cg} : CallS c (fLenO C sp) (rLenO (c.cA C) (upSp c sp)) := by
  intro w S H ds xs Q' Q f rl h k
  obtain ⟨d, e1, h⟩ := opt_some h
  obtain ⟨x, rfl, rd⟩ := one_rel e1 rl
  obtain ⟨fs, ei, h⟩ := opt_some h
  obtain ⟨a, dx, fs', rfl, ea, _, _⟩ := insOf_rel f ei rd
  refine ⟨a, dx, fs', rfl, ea, w, S, [d], _, _, f, .cons rd .nil, h, fun w' S' H' v u s' f' rv q => ?_, fun _ _ _ _ _ _ _ _ _ z => z.elim⟩
  obtain ⟨i, ev, h0, h1, q2⟩ := opt_some q
  obtain ⟨rfl, rfl⟩ := asI_rel ev rv
  exact ⟨i, rfl, h0, h1, k w' S' H' _ _ s' f' (.int i) q2⟩
/-! ### o.m(e, .., k = v, ..) -/
structure MtdK (P : Program) (w : World) (K : PySem.W.Frag) (mg : Str → Option Value) (base : Heap) (k : Nat) (C : Addr) (m : Str) (na : Nat) (ks : List Str) (sp : Sp) : Prop where
  ex : ∃ f fd ps g, Cls K C ∧ Meth K C m f ∧ FnOk P w K mg base (L2N.CX P w) k f fd ps sp ∧ KBn K fd ps (na + 1) ks g (fun vs zs => vs ++ zs)
def tMtdK (C : Addr) (m : Str) (na nk : Nat) (sp : Sp) (E : L2.St → XK) (ta : TE) (t tk : TA) : TE := fun σ H Q => ta σ H fun x H1 => ∃ a dx fs, x = .ref a ∧ H1 a = some (.ins C dx fs) ∧ fs.lookup m = none ∧
  t σ H1 fun vs H2 => tk σ H2 fun zs H3 => vs.length = na ∧ zs.length = nk ∧ sp (.ref a :: (vs ++ zs)) H3 Q (E σ)
theorem pe_meK {pl : Sem Bool} {C : Addr} {na : Nat} {ks : List Str} {sp : Sp} {E : L2.St → XK} {ta : TE} {t tk : TA} {kws : List Keyword} (c : MtdK X.prog X.w X.K X.mg X.base k C m na ks sp) (hr : Room r X.A) (hk : k ≤ r) (hx : ∀ σ, PassesAt (L2N.CX X.prog X.w) X σ (E σ))
    (he : PE X o ta) (ha : PA X (e :: es) t) (hkw : PK X kws tk) (hall : (backToKw pos (keywordEach kws X.env)).all (·.1.isSome) = true := by rfl) (hks : (backToKw pos (keywordEach kws X.env)).filterMap (·.1) = ks := by rfl)
    (hst : starEach (e :: es) X.env = (false, eval e X.env) :: starEach es X.env := by rfl) (hpl : ((backTo pos (starEach (e :: es) X.env)).any (·.1) || (backToKw pos (keywordEach kws X.env)).any (·.1.isNone)) = false := by rfl)
    (ht : eval (.Call (.Attribute o m apos) (e :: es) kws pos) X.env = (do
      let ov ← eval o X.env
      standAt apos.atName
      let (f, first) ← holding [ov] (getMethod ov m pl)
      callWith pos f first (backTo pos (starEach (e :: es) X.env)) (backToKw pos (keywordEach kws X.env))) := by rfl) :
    PE X (.Call (.Attribute o m apos) (e :: es) kws pos) (tMtdK C m na ks.length sp E ta t tk) := by
  obtain ⟨f, fd, ps, g, cl, hm, F, hb⟩ := c.ex
  refine ⟨fun pins s σ H Q I h => PySem.W.methodCall_KW (pl := pl) (thn (he.run pins s σ H _ I h) fun u s1 ⟨x, H1, I1, rx, a, dx, fs, ex, ea, l, q⟩ => ?_) ht⟩
  subst ex
  obtain rfl : u = Value.ref a := rx
  refine getmeth_ok I1 ea cl hm l (PySem.W.callWith_KW (first := [.ref a]) (h₀ := X.base) I.ok.mod.kin hm.kp hall (thn (ha.run pos pins s1 σ H1 _ I1 q) fun us s2 ⟨vs, H2, I2, r2, q2⟩ => ?_) hpl hst)
  refine thn (hkw.run pos pins s2 σ H2 _ I2 q2) fun ws s3 ⟨zs, H3, I3, rz, l1, l2, q3⟩ => ⟨I3.kIn, ?_⟩
  rw [hks]
  have rr := hb.rel (vs := .ref a :: vs) (us := .ref a :: us) (.cons rfl r2) rz
  refine wpAny_call (codeAny_mono (F.run X.A X.stack s3 H3 ⟨.ref a :: us, ks.zip ws⟩ _ _ Q (E σ) (hr.mono hk) I3.env0 (hb.to s3 (.ref a :: us) ws I3.kIn (by rw [List.length_cons, ← r2.length, l1]) (rz.length.symm.trans l2)) rr q3) fun res s' hq => ?_)
  rcases res with e | fl
  · exact hx σ pins H3 s3 e s' I3 hq
  rcases fl with _ | _ | _ | u
  · exact hq.elim
  · exact hq.elim
  · exact hq.elim
  · exact I3.after hq
def aMeK (C m : Str) (na nk : Nat) (sp : ASp) (ta : AM D) (t tk : AM (List D)) : AM D := aBind ta fun d => fun ρ S Q E => opt (insOf S d C) fun fs => fs.lookup m = none ∧
  aBind t (fun ds => aBind tk fun zs => fun _ S Q E => ds.length = na ∧ zs.length = nk ∧ sp (d :: (ds ++ zs)) S Q E) ρ S Q E
theorem j_meK {pl : Sem Bool} {na : Nat} {ks : List Str} {kws : List Keyword} (c : MtdK X.prog X.w X.K X.mg X.base k (n.c.cA C) m na ks (upSp n.c sp)) (hr : Room r X.A) (hk : k ≤ r) (hx : ∀ σ, PassesAt (L2N.CX X.prog X.w) X σ (WE n.W σ))
    (he : JE X n o ta) (ha : JA X n (e :: es) t) (hkw : JK X n kws tk) (hall : (backToKw pos (keywordEach kws X.env)).all (·.1.isSome) = true := by rfl) (hks : (backToKw pos (keywordEach kws X.env)).filterMap (·.1) = ks := by rfl)
    (hst : starEach (e :: es) X.env = (false, eval e X.env) :: starEach es X.env := by rfl) (hpl : ((backTo pos (starEach (e :: es) X.env)).any (·.1) || (backToKw pos (keywordEach kws X.env)).any (·.1.isNone)) = false := by rfl)
    (ht : eval (.Call (.Attribute o m apos) (e :: es) kws pos) X.env = (do
      let ov ← eval o X.env
      standAt apos.atName
      let (f, first) ← holding [ov] (getMethod ov m pl)
      callWith pos f first (backTo pos (starEach (e :: es) X.env)) (backToKw pos (keywordEach kws X.env))) := by rfl) :
    JE X n (.Call (.Attribute o m apos) (e :: es) kws pos) (aMeK C m na ks.length sp ta t tk) := by
  refine PE.imp (pe_meK c hr hk hx he ha hkw hall hks hst hpl ht) fun σ H Q h => ?_
  obtain ⟨w, ρ, S, st, h⟩ := h
  refine (upW.bind st h).mono ?_
  rintro v H1 ⟨w1, S1, d, st1, _, r1, Q', E', ht, hq, he⟩
  obtain ⟨fs, e1, hl, ht⟩ := opt_some ht
  obtain ⟨a, dx, fs', rfl, ha, hn, hs⟩ := insOf_rel st1.wf e1 r1
  refine ⟨a, dx, fs', rfl, ha, (lookup_rel hn hs).1 hl, ?_⟩
  have h1 : upW n.c n.W (Rel n.c) (aBind t (fun ds => aBind tk fun zs => fun _ S Q E => ds.length = na ∧ zs.length = ks.length ∧ sp (d :: (ds ++ zs)) S Q E)) w1 ρ S1 σ H1 Q := ⟨Q', E', ht, hq, he⟩
  refine (upW.bind st1 h1).mono ?_
  rintro vs H2 ⟨w2, S2, ds, st2, s2, r2, h2⟩
  refine (upW.bind st2 h2).mono ?_
  rintro zs H3 ⟨w3, S3, es, st3, s3, r3, Q3, E3, ⟨l1, l2, h3⟩, hq3, he3⟩
  exact ⟨(r2.len).symm.trans l1, (r3.len).symm.trans l2, upSp.of (ρ := ρ) ⟨Q3, E3, h3, hq3, he3⟩ st3.wf (.cons (r1.stp (s2.trans s3)) ((r2.stp s3).append r3))⟩
/-! ### isinstance(x, C), C an own class -/
def fIsiC (C : Str) (Ts : List String) : FN := fun ds S Q => opt (two2 ds) fun p => p.2 = .cl C ∧ match insOf S p.1 C with
  | some _ => Q (.bl true) S
  | none => opt (tyN S p.1) fun T => T ∈ Ts ∧ Q (.bl false) S
def rIsiC (K : PySem.W.Frag) (C : Addr) : List V → Hp → VK → Prop := fun xs H Q => (∃ a dx fs, xs = [.ref a, .ref C] ∧ H a = some (.ins C dx fs) ∧ Q (.bl true) H) ∨ rIsi K xs H Q
theorem call_isiC {C : Addr} (K : PySem.W.Frag) (c : C8.InsC K C) (hK : X.K = K := by rfl) : CallR X (.builtin "isinstance") (rIsiC K C) := by
  subst hK
  exact CallR.or (C8.call_isC c) call_isi
theorem cs_isiC {c : Cg} {Ts : List String} (hT : ∀ T ∈ Ts, PySem.W.kitOne c.K (.type T) (.ref (c.cA C)) = some false) : CallS c (fIsiC C Ts) (rIsiC c.K (c.cA C)) := by
  intro w S H ds xs Q' Q f rl h k
  obtain ⟨p, e1, e2, h⟩ := opt_some h
  obtain ⟨x, y, rfl, rx, ry⟩ := two_rel e1 rl
  rw [e2] at ry
  cases ry
  split at h
  · rename_i fs ei
    obtain ⟨a, dx, fs', rfl, ea, _, _⟩ := insOf_rel f ei rx
    exact .inl ⟨a, dx, fs', rfl, ea, fin0 f k (.bl true) h⟩
  · obtain ⟨T, eT, hm, q⟩ := opt_some h
    exact .inr ⟨x, _, _, _, false, rfl, .own _, (tyN_rel f eT rx).1, hT T hm, fin0 f k (.bl false) q⟩
/-! ### {k: v, ..} with texts as keys: a new dict of the row -/
def aDisp (l : List (Str × AM D)) : AM D := aBind (aPairs l) fun ps => fun _ S Q _ => ps.length ≤ 15 ∧ Q (.ref S.length) (S ++ [.dct (ps.foldl (fun acc p => putS acc p.1 p.2) [])])
inductive JPs (X : Cx) (n : Cn) (pos : Pos) : List (Option Expr) → List Expr → List (Str × AM D) → Prop
  | nil : JPs X n pos [] [] []
  | cons {x : Str} {j : Nat} {p : Pos} {v : Expr} {ks : List (Option Expr)} {vs : List Expr} {tv : AM D} {l : List (Str × AM D)} (hv : JE X n v tv) (hr : JPs X n pos ks vs l) : JPs X n pos (some (.Constant (.str x) j p) :: ks) (v :: vs) ((x, tv) :: l)
def trsOf (n : Cn) (l : List (Str × AM D)) : List (TE × TE) := l.map fun p => (tC (.str p.1), upE n p.2)
theorem JPs.pps {keys : List (Option Expr)} {values : List Expr} {l : List (Str × AM D)} (h : JPs X n pos keys values l) : PPs X pos keys values (trsOf n l) := by
  induction h with
  | nil => exact pps_nil
  | cons hv hr ih => exact pps_cons pe_str hv ih
def relP (c : Cg) (w : Wd) (N : Nat) (H : Hp) (ds : List (Str × D)) (vs : List (V × V)) : Prop := vs.map (·.1) = ds.map (fun p => V.str p.1) ∧ RelL c w N H (ds.map (·.2)) (vs.map (·.2))
theorem up_pairs : ∀ {l : List (Str × AM D)} {w : Wd} {ρ : Ev} {S : Sto} {σ : L2.St} {H : Hp} {Q : List (V × V) → Hp → Prop}, Sta n.c n.g w ρ S σ H → upW n.c n.W (relP n.c) (aPairs l) w ρ S σ H Q → tPairs (trsOf n l) σ H Q
  | [], w, ρ, S, σ, H, Q, st, h => h.fin st.wf ⟨rfl, .nil⟩
  | (x, t) :: l, w, ρ, S, σ, H, Q, st, h => by
    show upE n t σ H fun y H2 => tPairs (trsOf n l) σ H2 fun ps H3 => Q ((.str x, y) :: ps) H3
    refine (upW.bind (r := Rel n.c) st h).mono ?_
    rintro y H2 ⟨w1, S1, d, st1, s1, r1, h1⟩
    obtain ⟨Q', E', h1, hq, he⟩ := h1
    refine up_pairs st1 ⟨_, E', h1, fun w2 S2 H2 ps vs s2 f2 r2 q2 => ?_, he⟩
    exact hq w2 S2 H2 ((x, d) :: ps) ((.str x, y) :: vs) s2 f2 ⟨by simp [r2.1], .cons (r1.stp s2) r2.2⟩ q2
theorem keyd {ps : List (V × V)} {ds : List (Str × D)} : (ps.map (·.1) = ds.map fun p => V.str p.1) → ps = ((ds.zip ps).map fun q => (Sum.inr q.1.1, q.2.2)).map (fun (kv : Key × V) => (kV kv.1, kv.2)) ∧ ((ds.zip ps).map fun q => ((Sum.inr q.1.1 : Key), q.2.2)).map (·.1) = ds.map (fun p => Sum.inr p.1) ∧ ((ds.zip ps).map fun q => ((Sum.inr q.1.1 : Key), q.2.2)).map (·.2) = ps.map (·.2) := by
  induction ds generalizing ps with
  | nil =>
    intro h
    cases ps with
    | nil => exact ⟨rfl, rfl, rfl⟩
    | cons _ _ => simp at h
  | cons d ds ih =>
    intro h
    cases ps with
    | nil => simp at h
    | cons p ps =>
      simp only [List.map_cons, List.cons.injEq] at h
      obtain ⟨i1, i2, i3⟩ := ih h.2
      refine ⟨?_, ?_, ?_⟩
      · simp only [List.zip_cons_cons, List.map_cons]
        rw [← i1]
        obtain ⟨a, b⟩ := p
        have : a = V.str d.1 := h.1
        rw [this]; rfl
      · simp only [List.zip_cons_cons, List.map_cons, i2]
      · simp only [List.zip_cons_cons, List.map_cons, i3]
theorem merge_rel {c : Cg} {w : Wd} {N : Nat} {H : Hp} : ∀ {ds acc : List (Str × D)} {kvs acc' : List (Key × V)}, kvs.map (·.1) = ds.map (fun p => Sum.inr p.1) → RelL c w N H (ds.map (·.2)) (kvs.map (·.2)) → acc'.map (·.1) = acc.map (fun p => Sum.inr p.1) → RelL c w N H (acc.map (·.2)) (acc'.map (·.2)) →
    (mergeK acc' kvs).map (·.1) = (ds.foldl (fun acc p => putS acc p.1 p.2) acc).map (fun p => Sum.inr p.1) ∧ RelL c w N H ((ds.foldl (fun acc p => putS acc p.1 p.2) acc).map (·.2)) ((mergeK acc' kvs).map (·.2))
  | [], acc, kvs, acc', h1, _, h3, h4 => by
    cases kvs with
    | nil => exact ⟨h3, h4⟩
    | cons _ _ => simp at h1
  | d :: ds, acc, kvs, acc', h1, h2, h3, h4 => by
    cases kvs with
    | nil => simp at h1
    | cons kv kvs =>
      simp only [List.map_cons, List.cons.injEq] at h1 h2
      cases h2 with
      | cons r1 r2 =>
        obtain ⟨p1, p2⟩ := putK_rel (k := d.1) r1 h3 h4
        obtain ⟨k1, k2⟩ := kv
        have e : k1 = Sum.inr d.1 := h1.1
        subst e
        exact merge_rel (ds := ds) (kvs := kvs) h1.2 r2 p1 p2
/-- an address that one keeps for oneself becomes an object of the row -/
theorem own_open {c : Cg} {w w2 : Wd} {S S2 : Sto} {H H2 : Hp} {a : Addr} {ob : O} {kv : List (Key × V)} {ho : HO} (hD : H a = none) (s : Stp w S.length H w2 S2.length H2) (f2 : Wf c w2 S2 H2) (hR : w2.R a) (hn : ∀ m, m < S2.length → w2.i m ≠ a)
    (hu : H2 a = some (.dK kv)) (ro : ∀ w3 H3, Stp0 w2 S2.length H2 w3 (S2.length + 1) H3 → H3 a = some ho → RelO c w3 (S2.length + 1) H3 ob a) :
    ∃ w3, Stp w S.length H w3 (S2 ++ [ob]).length (upd H2 a ho) ∧ Wf c w3 (S2 ++ [ob]) (upd H2 a ho) ∧ Rel c w3 (S2 ++ [ob]).length (upd H2 a ho) (.ref S2.length) (.ref a) := by
  have len : (S2 ++ [ob]).length = S2.length + 1 := by simp
  have old : ∀ m, m < S2.length → (if m = S2.length then a else w2.i m) = w2.i m := fun m hm => if_neg (Nat.ne_of_lt hm)
  have sp : ∀ n, n < S2.length + 1 → n = S2.length ∨ n < S2.length := fun n h => by omega
  have keep : ∀ b o, H2 b = some o → b ≠ a → upd H2 a ho b = some o := fun b o e h => by rw [upd_ne h]; exact e
  have s0 : Stp0 w2 S2.length H2 ⟨w2.R, fun m => if m = S2.length then a else w2.i m⟩ (S2.length + 1) (upd H2 a ho) := by
    refine ⟨Nat.le_succ _, old, fun _ h => .inl h, fun b o e r => keep b o e fun z => r (z ▸ hR), fun b xs h => ?_⟩
    have z : b ≠ a := fun z => by subst z; rcases h with h | ⟨q, h⟩ <;> rw [hu] at h <;> cases h
    rcases h with h | ⟨q, h⟩
    · exact .inl (keep _ _ h z)
    · exact .inr ⟨q, keep _ _ h z⟩
  have s' : Stp w S.length H w2 S2.length (upd H2 a ho) := s.mut hD
  refine ⟨⟨w2.R, fun m => if m = S2.length then a else w2.i m⟩, ?_, ?_, ?_⟩
  · rw [len]
    refine ⟨Nat.le_succ_of_le s'.le, fun m hm => (old m (Nat.lt_of_lt_of_le hm s'.le)).trans (s'.ids m hm), fun m h1 h2 => ?_, s'.up, s'.res, s'.fro, s'.rsv, s'.dom, s'.tups⟩
    rcases sp m h2 with rfl | h2
    · show H (if S2.length = S2.length then a else _) = none
      rw [if_pos rfl]; exact hD
    · show H (if m = S2.length then a else _) = none
      rw [old m h2]; exact s'.new m h1 h2
  · refine ⟨fun m hm => ?_, fun b hb => ?_, fun m k hm hk e => ?_, fun m o e => ?_⟩
    · rw [len] at hm
      show w2.R (if m = S2.length then a else w2.i m)
      rcases sp m hm with rfl | hm
      · rw [if_pos rfl]; exact hR
      · rw [old m hm]; exact f2.res m hm
    · by_cases z : b = a
      · subst z; exact ⟨ho, upd_same⟩
      · obtain ⟨o, e⟩ := f2.held b hb
        exact ⟨o, keep b o e z⟩
    · rw [len] at hm hk
      have e : (if m = S2.length then a else w2.i m) = (if k = S2.length then a else w2.i k) := e
      rcases sp m hm with rfl | hm
      · rcases sp k hk with rfl | hk
        · rfl
        · rw [if_pos rfl, old k hk] at e; exact absurd e.symm (hn k hk)
      · rcases sp k hk with rfl | hk
        · rw [if_pos rfl, old m hm] at e; exact absurd e (hn m hm)
        · rw [old m hm, old k hk] at e; exact f2.inj m k hm hk e
    · rw [len]
      have hm : m < S2.length + 1 := by rw [← len]; exact (List.getElem?_eq_some_iff.mp e).1
      rcases sp m hm with rfl | hm
      · have z : o = ob := by simpa using e.symm
        subst z
        show RelO c _ _ _ o (if S2.length = S2.length then a else _)
        rw [if_pos rfl]
        exact ro _ _ s0 upd_same
      · show RelO c _ _ _ o (if m = S2.length then a else w2.i m)
        rw [old m hm]
        rw [List.getElem?_append_left hm] at e
        exact RelO.at0 s0 (f2.obj m o e) fun x hx => keep _ _ hx (hn m hm)
  · rw [len]
    have := Rel.ref (c := c) (w := ⟨w2.R, fun m => if m = S2.length then a else w2.i m⟩) (N := S2.length + 1) (H := upd H2 a ho) (n := S2.length) (Nat.lt_succ_self _)
    have e : (if S2.length = S2.length then a else w2.i S2.length) = a := if_pos rfl
    rw [show (Wd.mk w2.R fun m => if m = S2.length then a else w2.i m).i S2.length = a from e] at this
    exact this
theorem j_disp {keys : List (Option Expr)} {values : List Expr} {l : List (Str × AM D)} (h : JPs X n pos keys values l) (hall : keys.all (·.isSome) = true) (hl : keys.length = values.length) (h0 : keys ≠ []) (h15 : keys.length ≤ 15) :
    JE X n (.Dict keys values pos) (aDisp l) := by
  refine PE.imp (pe_disp h.pps hall hl h0 h15) fun σ H Q ⟨w, ρ, S, st, hh⟩ => ?_
  intro p hp
  obtain ⟨Q', E', ht, hq, he⟩ := hh
  have st1 : Sta n.c n.g (w.hold p) ρ S σ (upd H p (.dK [])) := st.step (Stp.hold hp _) (st.wf.hold hp _)
  have sh : Stp w S.length H (w.hold p) S.length (upd H p (.dK [])) := Stp.hold hp _
  have hpn : ∀ m, m < S.length → (w.hold p).i m ≠ p := fun m hm z => by
    obtain ⟨o, e, _⟩ := RelO.isAt (st.wf.obj m S[m] (by simp))
    have z' : w.i m = p := z
    rw [z', hp] at e; cases e
  refine up_pairs st1 ⟨_, E', ht, fun w2 S2 H2 ps vs s2 f2 r2 q2 => ?_, fun w' S' H' x cls d s f r q => he w' S' H' x cls d (sh.trans s) f r q⟩
  · have hR : w2.R p := s2.up p (.inr rfl)
    have hn2 : ∀ m, m < S2.length → w2.i m ≠ p := fun m hm z => by
      by_cases h1 : m < S.length
      · rw [s2.ids m h1] at z; exact hpn m h1 z
      · have := s2.new m (by omega) hm
        rw [z, upd_same] at this; cases this
    have hu : H2 p = some (.dK []) := s2.rsv p _ upd_same (.inr rfl) hpn
    obtain ⟨k1, k2, k3⟩ := keyd r2.1
    refine ⟨hu, _, k1, ?_, ?_⟩
    · have l1 : vs.length = ps.length := by simpa using congrArg List.length r2.1
      rw [List.length_map, List.length_zip, l1, Nat.min_self]
      exact q2.1
    · obtain ⟨w3, s3, f3, r3⟩ := own_open (ob := .dct (ps.foldl (fun acc p => putS acc p.1 p.2) [])) (ho := .dK (mergeK [] ((ps.zip vs).map fun q => ((Sum.inr q.1.1 : Key), q.2.2)))) hp (sh.trans s2) f2 hR hn2 hu (fun w3 H3 s0 e3 => by
        obtain ⟨m1, m2⟩ := merge_rel (acc := []) (acc' := []) k2 (by rw [k3]; exact r2.2.stp0 s0) rfl .nil
        exact ⟨_, e3, m1, m2⟩)
      exact hq w3 _ _ _ _ s3 f3 r3 q2.2
end
end A

set_option Elab.async false
set_option linter.all false
set_option maxRecDepth 100000
set_option maxHeartbeats 4000000
/-! pairs and triples stored where an error is handled -/
namespace A
open PySem PySem.Spec PyProof.Rows L2 HotX L2H
section
variable {prog : Program} {w : World} {A : Around} {E : Value → Shared → Prop} {s : Shared}
theorem next_tuple_end_hot {it t x1 : Addr} {i : Nat} {items : Array Value} {Q : Option Value → Shared → Prop} (hot : HotAt A x1 s.heap) (ni : x1 ≠ it)
    (hit : IsTupIter s.heap it t i) (ht : IsTup s.heap t items) (hx : items[i]? = none)
    (hQ : ∀ h', Heap.ExtBut it s.heap h' → Q none { s with heap := h' }) : wpAny (model prog w) A (pyNext (.ref it)) Q E s := by
  obtain ⟨o, ho, hc, hd⟩ := id hit
  obtain ⟨ol, hol, _, nl, hdl⟩ := ht
  obtain ⟨hh, o1, vs1, h1, d1, c1⟩ := hot
  unfold pyNext
  refine wpAny_bind (wpAny_attempt (wpAny_callSpecial?_slot (name := Str.ofString "__next__") hit.typeIs slot_tupleiter_next
    (wpAny_call_entry slot_tupleiter_next hit.typeIs entry_tupleiter_next ?_ (args_tupleiter_next _))))
  show wpAny _ _ (field (.ref it) 0 >>= _) _ _ s
  refine wpAny_bind (wpAny_field ho hd (x := .ref t) rfl ?_)
  show wpAny _ _ (if (Value.ref t == Value.none) = true then _ else _) _ _ s
  rw [if_neg (show ¬ ((Value.ref t == Value.none) = true) from Bool.false_ne_true)]
  show wpAny _ _ (field (.ref it) 1 >>= _) _ _ s
  refine wpAny_bind (wpAny_field ho hd (x := .int i 0) rfl ?_)
  show wpAny _ _ (seqItems? (.ref t) >>= _) _ _ s
  refine wpAny_bind (wpAny_seqItems hol hdl ?_)
  simp only [Int.toNat_natCast, hx]
  refine wpAny_bind (wpAny_rule (wpAny_bind (wpAny_setField ho hd (by simp) ?_)))
  show wpAny _ _ (newExc (.type "StopIteration") [] >>= _) _ _ _
  refine wpAny_bind ?_
  simp only [newExc, newTuple]
  refine wpAny_bind (wpAny_newObj_type ?_ (by size_fits))
  refine wpAny_bind (m := firstArgMember _ _) (wpAny_of_eq (a := Value.none) (by first | rfl | (simp only [firstArgMember]; rfl)) ?_)
  refine wpAny_newObj_type ?_ (by size_fits)
  have h1' : (s.heap.update it (Obj.mapFields (·.setIfInBounds 0 .none))).get? x1 = some o1 := by rw [Heap.get?_update_other _ _ (Ne.symm ni)]; exact h1
  refine raiseNew_hot ⟨hh, o1, vs1, Heap.get?_push_of_some _ (Heap.get?_push_of_some _ h1'), d1, c1⟩ (Nat.ne_of_lt (Heap.lt_size (Heap.get?_push_of_some _ h1'))) (Heap.get?_push_size _ rfl) rfl (by first | (simp; done) | (simp; omega) | (simp only [Array.size_append]; simp; omega)) ?_
  refine wpAny_bind (wpAny_isInstance (T := "StopIteration") (b := true) ⟨_, Heap.get?_update_self _ (Heap.get?_push_size _ rfl) rfl, rfl⟩ isSubtype_stop ?_)
  refine wpAny_pure (hQ _ fun b o hb e => ?_)
  refine (Heap.get?_update_other _ _ ?_).trans ((((Heap.SameBut.update ..).extBut.push _).push _) b o hb e)
  have h3 := Heap.lt_size e
  intro z
  rw [Heap.size_push, Heap.size_update] at z
  exact absurd h3 (Nat.not_lt.mpr (z ▸ Nat.le_succ _))
theorem unpackItems_tuple_hot {t x1 : Addr} {items : Array Value} {Q : List Value → Shared → Prop} (hot : HotAt A x1 s.heap) (ht : IsTup s.heap t items)
    (hQ : ∀ h', Heap.ExtBut s.heap.objs.size s.heap h' → Q items.toList { s with heap := h' }) : wpAny (model prog w) A (unpackItems (.ref t) items.size none) Q E s := by
  have hlt : t ≠ s.heap.objs.size := by obtain ⟨o, ho, _⟩ := ht; exact Nat.ne_of_lt (Heap.lt_size ho)
  obtain ⟨hh, o1, vs1, h1, d1, c1⟩ := hot
  have hlx : x1 ≠ s.heap.objs.size := Nat.ne_of_lt (Heap.lt_size h1)
  unfold unpackItems
  refine wpAny_bind ?_
  · unfold notIterableAtAll
    refine wpAny_bind (wpAny_specialOf ht.typeIs slot_tuple_iter.lookup ?_)
    refine wpAny_pure ?_
    simp only [Bool.false_eq_true, if_false]
    refine wpAny_bind (wpAny_holding (iter_tuple ht ?_))
    refine wpAny_bind (wpAny_holding (draw_tuple hlt items.size 0 _ _ ⟨_, Heap.get?_push_size _ rfl, rfl, rfl⟩ (ht.push _) (by omega) fun h₁ hit₁ hs₁ => ?_))
    have hall : List.take items.size (List.drop 0 items.toList) = items.toList := by
      rw [List.drop_zero]; exact List.take_of_length_le (by simp)
    rw [hall]
    rw [if_neg (by simp)]
    have ht₁ : IsTup h₁ t items := (ht.push _).extBut hs₁.extBut hlt
    have hx₁ : h₁.get? x1 = some o1 := hs₁.extBut x1 o1 hlx (Heap.get?_push_of_some _ h1)
    refine wpAny_bind (wpAny_holding (next_tuple_end_hot ⟨hh, o1, vs1, hx₁, d1, c1⟩ hlx hit₁ ht₁ (by simp) fun h₂ he₂ => ?_))
    simp only [Option.isSome_none, Bool.false_eq_true, if_false]
    refine wpAny_pure (hQ h₂ fun b o hb e => he₂ b o hb (hs₁.extBut b o hb (Heap.get?_push_of_some _ e)))
end
section
variable {X : Cx} {pos : Pos}
/-- nothing is handled, or an error whose context is None -/
def Unp (X : Cx) : Prop := X.calm = true ∨ HotC X
theorem unp_tuple {t : Addr} {items : Array Value} {Q : List Value → Shared → Prop} {pins : List (Addr × Obj)} {σ : L2.St} {H : Hp} {s : Shared} (u : Unp X) (I : Inv X pins σ H s) (ht : IsTup s.heap t items)
    (hQ : ∀ h', Heap.ExtBut s.heap.objs.size s.heap h' → Q items.toList { s with heap := h' }) : wpAny (model X.prog X.w) X.A (unpackItems (.ref t) items.size none) Q X.xe s := by
  rcases u with hc | hc
  · exact unpackItems_tuple (I.ok.hd hc) ht hQ
  · obtain ⟨x1, hot⟩ := hc.at I
    exact unpackItems_tuple_hot hot ht hQ
theorem hot_suite {a : Addr} {oe : Obj} {cls : Value} {d : Option Addr} {pn : List (Addr × Obj)} (hz : L2N.Zn cls d oe) (hf : ∃ vs, oe.data = .fields vs) : Unp (X.suite a ((a, oe) :: pn)) := by
  obtain ⟨vs, hv⟩ := hf
  exact .inr ⟨(a, oe), ⟨rfl, vs, hv, hz.2.2 vs hv⟩, List.mem_cons_self⟩
theorem ps_parU {i j : Nat} {x y : Str} {a b : Expr} {ta : TA} {px py pt : Pos} {kt k2 pt2} (hc : Unp X) (hN : X.N.Nodup) (hi : X.N[i]? = some x) (hj : X.N[j]? = some y) (hij : i ≠ j)
    (hx : X.env.scope.names.lookup x = some .local) (hy : X.env.scope.names.lookup y = some .local) (ha : PA X [a, b] ta)
    (hw : swappedStores [.Tuple [.Name x px, .Name y py] kt pt] (.Tuple [a, b] k2 pt2) X.env = pure (some [x, y]))
    (hs : swapsWithSole [.Tuple [.Name x px, .Name y py] kt pt] (.Tuple [a, b] k2 pt2) pos.line X.env = pure false := by rfl) :
    PS X (.Assign [.Tuple [.Name x px, .Name y py] kt pt] (.Tuple [a, b] k2 pt2) pos) (tPar i j ta) := by
  refine ⟨fun pins s σ H D I h => ?_⟩
  rw [exec_Assign_arm]
  refine wpAny_bind (wpAny_standAt ?_)
  rw [hs]
  refine wpAny_bind (wpAny_pure ?_)
  rw [if_neg (by decide)]
  refine wpAny_bind (Tuple_ (thn (ha.run _ pins s σ H _ I h) fun us s1 ⟨vs, H1, I1, r1, q1⟩ => ?_))
  obtain ⟨v, w, e1, q1⟩ := q1
  subst e1
  obtain ⟨u1, u2, rfl, rv, rw'⟩ : ∃ u1 u2, us = [u1, u2] ∧ RelV v u1 ∧ RelV w u2 := by
    cases r1 with
    | cons p q =>
      cases q with
      | cons p' q' =>
        cases q'
        exact ⟨_, _, rfl, p, p'⟩
  refine wpAny_newObj_type ?_ (by show 2 ≤ sizeLine; decide)
  have I2 : Inv X pins σ H1 { s1 with heap := s1.heap.push { cls := .type "tuple", data := .seq [u1, u2].toArray } } := I1.kept (t' := s1.toks) fun b o e => Heap.get?_push_of_some _ e
  rw [hw]
  refine wpAny_bind (wpAny_pure ?_)
  show wpAny (model X.prog X.w) X.A (do rule "assign.swapped-stores"; let items ← unpackItems (.ref s1.heap.objs.size) 2 none; assignInOrder [fun v => bindName X.env y v, fun v => bindName X.env x v] items.reverse; pure Flow.next) _ _ _
  refine wpAny_bind (wpAny_rule (wpAny_bind (unp_tuple (items := #[u1, u2]) hc I2 (IsTup.new s1.heap _) fun h' hx' => ?_)))
  have I3 := I2.kept (h' := h') (t' := s1.toks) fun b o e => hx' b o (Nat.ne_of_lt (Heap.lt_size e)) e
  show wpAny _ _ (assignInOrder [fun v => bindName X.env y v, fun v => bindName X.env x v] [u2, u1] >>= fun _ => pure Flow.next) _ _ _
  refine wpAny_bind (assignInOrder_cons (wpAny_bindName (store_ok I3 hN hj (.inl hy) rw' (fun s2 I4 => ?_) (.inr hy))))
  refine assignInOrder_cons (wpAny_bindName (store_ok I4 hN hi (.inl hx) rv (fun s3 I5 => assignInOrder_nil (wpAny_pure ?_)) (.inr hx)))
  rw [List.set_comm _ _ (Ne.symm hij)] at I5
  exact ⟨_, H1, I5, q1⟩
theorem ps_par3U {i j l : Nat} {x y z : Str} {a b c : Expr} {ta : TA} {px py pz pt pos : Pos} {kt k2 pt2} (hc : Unp X) (hN : X.N.Nodup) (hi : X.N[i]? = some x) (hj : X.N[j]? = some y) (hl : X.N[l]? = some z) (hij : i ≠ j) (hil : i ≠ l) (hjl : j ≠ l)
    (hx : X.env.scope.names.lookup x = some .local) (hy : X.env.scope.names.lookup y = some .local) (hz : X.env.scope.names.lookup z = some .local) (ha : PA X [a, b, c] ta)
    (hw : swappedStores [.Tuple [.Name x px, .Name y py, .Name z pz] kt pt] (.Tuple [a, b, c] k2 pt2) X.env = pure (some [x, y, z]))
    (hs : swapsWithSole [.Tuple [.Name x px, .Name y py, .Name z pz] kt pt] (.Tuple [a, b, c] k2 pt2) pos.line X.env = pure false := by rfl) :
    PS X (.Assign [.Tuple [.Name x px, .Name y py, .Name z pz] kt pt] (.Tuple [a, b, c] k2 pt2) pos) (tPar3 i j l ta) := by
  refine ⟨fun pins s σ H D I h => ?_⟩
  rw [exec_Assign_arm]
  refine wpAny_bind (wpAny_standAt ?_)
  rw [hs]
  refine wpAny_bind (wpAny_pure ?_)
  rw [if_neg (by decide)]
  refine wpAny_bind (Tuple_ (thn (ha.run _ pins s σ H _ I h) fun us s1 ⟨vs, H1, I1, r1, q1⟩ => ?_))
  obtain ⟨v1, v2, v3, e1, q1⟩ := q1
  subst e1
  obtain ⟨u1, u2, u3, rfl, r1', r2', r3'⟩ : ∃ u1 u2 u3, us = [u1, u2, u3] ∧ RelV v1 u1 ∧ RelV v2 u2 ∧ RelV v3 u3 := by
    cases r1 with
    | cons p q =>
      cases q with
      | cons p' q' =>
        cases q' with
        | cons p'' q'' =>
          cases q''
          exact ⟨_, _, _, rfl, p, p', p''⟩
  refine wpAny_newObj_type ?_ (by show 3 ≤ sizeLine; decide)
  have I2 : Inv X pins σ H1 { s1 with heap := s1.heap.push { cls := .type "tuple", data := .seq [u1, u2, u3].toArray } } := I1.kept (t' := s1.toks) fun b o e => Heap.get?_push_of_some _ e
  rw [hw]
  refine wpAny_bind (wpAny_pure ?_)
  show wpAny (model X.prog X.w) X.A (do rule "assign.swapped-stores"; let items ← unpackItems (.ref s1.heap.objs.size) 3 none; assignInOrder [fun v => bindName X.env z v, fun v => bindName X.env y v, fun v => bindName X.env x v] items.reverse; pure Flow.next) _ _ _
  refine wpAny_bind (wpAny_rule (wpAny_bind (unp_tuple (items := #[u1, u2, u3]) hc I2 (IsTup.new s1.heap _) fun h' hx' => ?_)))
  have I3 := I2.kept (h' := h') (t' := s1.toks) fun b o e => hx' b o (Nat.ne_of_lt (Heap.lt_size e)) e
  show wpAny _ _ (assignInOrder [fun v => bindName X.env z v, fun v => bindName X.env y v, fun v => bindName X.env x v] [u3, u2, u1] >>= fun _ => pure Flow.next) _ _ _
  refine wpAny_bind (assignInOrder_cons (wpAny_bindName (store_ok I3 hN hl (.inl hz) r3' (fun s2 I4 => ?_) (.inr hz))))
  refine assignInOrder_cons (wpAny_bindName (store_ok I4 hN hj (.inl hy) r2' (fun s3 I5 => ?_) (.inr hy)))
  refine assignInOrder_cons (wpAny_bindName (store_ok I5 hN hi (.inl hx) r1' (fun s4 I6 => assignInOrder_nil (wpAny_pure ?_)) (.inr hx)))
  rw [List.set_comm _ _ (Ne.symm hjl), List.set_comm _ _ (Ne.symm hil), List.set_comm _ _ (Ne.symm hij)] at I6
  exact ⟨_, H1, I6, q1⟩
end
section
variable {X : Cx} {n : Cn} {pos : Pos}
theorem js_parU {i j : Nat} {x y : Str} {a b : Expr} {ta : AM (List D)} {px py pt : Pos} {kt k2 pt2} (hc : Unp X) (hN : X.N.Nodup) (hi : X.N[i]? = some x) (hj : X.N[j]? = some y) (hij : i ≠ j)
    (hx : X.env.scope.names.lookup x = some .local) (hy : X.env.scope.names.lookup y = some .local) (ha : JA X n [a, b] ta)
    (hw : swappedStores [.Tuple [.Name x px, .Name y py] kt pt] (.Tuple [a, b] k2 pt2) X.env = pure (some [x, y]))
    (hs : swapsWithSole [.Tuple [.Name x px, .Name y py] kt pt] (.Tuple [a, b] k2 pt2) pos.line X.env = pure false := by rfl) :
    JS X n (.Assign [.Tuple [.Name x px, .Name y py] kt pt] (.Tuple [a, b] k2 pt2) pos) (sPar i j ta) := PS.imp (ps_parU hc hN hi hj hij hx hy ha hw hs) fun De σ H h => by
  refine (upS.bind h).mono ?_
  rintro vs H1 ⟨w1, ρ, S1, D', ds, st1, r1, hf, k⟩
  obtain ⟨p, e1, q⟩ := opt_some hf
  obtain ⟨v, v', rfl, rv, rw'⟩ := two_rel e1 r1
  exact ⟨v, v', rfl, k.nx w1 _ S1 _ H1 Stp.refl ⟨st1.wf, (st1.ev.set rv).set rw', st1.gx⟩ q⟩
def sPar3 (i j l : Nat) (t : AM (List D)) : AS := sBind t fun ds De ρ S => opt (three3 ds) fun p => De.nx (((ρ.set i (some p.1)).set j (some p.2.1)).set l (some p.2.2)) S
theorem js_par3U {i j l : Nat} {x y z : Str} {a b c : Expr} {ta : AM (List D)} {px py pz pt : Pos} {kt k2 pt2} (hc : Unp X) (hN : X.N.Nodup) (hi : X.N[i]? = some x) (hj : X.N[j]? = some y) (hl : X.N[l]? = some z) (hij : i ≠ j) (hil : i ≠ l) (hjl : j ≠ l)
    (hx : X.env.scope.names.lookup x = some .local) (hy : X.env.scope.names.lookup y = some .local) (hz : X.env.scope.names.lookup z = some .local) (ha : JA X n [a, b, c] ta)
    (hw : swappedStores [.Tuple [.Name x px, .Name y py, .Name z pz] kt pt] (.Tuple [a, b, c] k2 pt2) X.env = pure (some [x, y, z]))
    (hs : swapsWithSole [.Tuple [.Name x px, .Name y py, .Name z pz] kt pt] (.Tuple [a, b, c] k2 pt2) pos.line X.env = pure false := by rfl) :
    JS X n (.Assign [.Tuple [.Name x px, .Name y py, .Name z pz] kt pt] (.Tuple [a, b, c] k2 pt2) pos) (sPar3 i j l ta) := PS.imp (ps_par3U hc hN hi hj hl hij hil hjl hx hy hz ha hw hs) fun De σ H h => by
  refine (upS.bind h).mono ?_
  rintro vs H1 ⟨w1, ρ, S1, D', ds, st1, r1, hf, k⟩
  obtain ⟨p, e1, q⟩ := opt_some hf
  match ds, vs, e1, r1 with
  | [_, _, _], _, e1, .cons ra (.cons rb (.cons rc .nil)) =>
    cases e1
    exact ⟨_, _, _, rfl, k.nx w1 _ S1 _ H1 Stp.refl ⟨st1.wf, ((st1.ev.set ra).set rb).set rc, st1.gx⟩ q⟩
end
end A

set_option Elab.async false
set_option linter.all false
set_option maxRecDepth 100000
set_option maxHeartbeats 4000000
/-! comprehensions over a list of ints that may change -/
namespace A
open PySem PySem.Spec PyProof.Rows L2
def lcR (m : Nat) (xs : List D) (g : AG) (tt : AM Bool) (te : AM D) (ρ : Ev) (Q : List D → Sto → Prop) : List D → List D → Sto → Prop
  | [], acc, S => lstAt S m = some xs ∧ Q acc S
  | x :: r, acc, S => lstAt S m = some xs ∧ g x ρ fun ρ2 => tt ρ2 S (fun b S3 => if b = true then te ρ2 S3 (fun y S4 => acc.length < big ∧ lcR m xs g tt te ρ Q r (acc ++ [y]) S4) (fun _ _ => False) else lcR m xs g tt te ρ Q r acc S3) fun _ _ => False
theorem relL_ints_eq {c : Cg} {w : Wd} {N : Nat} {H : Hp} : ∀ {ns : List Int} {vs : List V}, RelL c w N H (ns.map D.int) vs → vs = ns.map V.int
  | [], _, .nil => rfl
  | n :: ns, _, .cons (.int _) r => by rw [relL_ints_eq r]; rfl
theorem lc_runR {n : Cn} {J : It} {m0 : Nat} {ns : List Int} {a : Addr} {g : TG} {gD : AG} {tt : AM Bool} {te : AM D} {vs : List Nat} {w : Wd} {ρ : Ev} {S : Sto} {σ : L2.St} {H1 : Hp} {Qd : List D → Sto → Prop} {Q : VK} (gl : GL n.c g gD vs) (st : Sta n.c n.g w ρ S σ H1)
    (ea : w.i m0 = a) (wk : Walk J ns.length (fun H => SqB n.c.K H true a (ns.map V.int)) (YAt (ns.map V.int))) (h : lcR m0 (ns.map A.D.int) gD tt te (wipeD ρ vs) Qd (ns.map A.D.int) [] S)
    (hd : ∀ D w2 S2 H2 ys us, H1 D = none → Stp w S.length H1 w2 S2.length H2 → Wf n.c w2 S2 H2 → w2.R D → (∀ m, m < S2.length → w2.i m ≠ D) → H2 D = some (.lst us) → RelL n.c w2 S2.length H2 ys us → Qd ys S2 → Q (.ref D) H2) :
    LcB J g (upT n.no tt) (upE n.no te) vs σ Q H1 := by
  have gd : ∀ {w2 : Wd} {S2 : Sto} {H2 : Hp} {r ys : List D}, Stp w S.length H1 w2 S2.length H2 → Wf n.c w2 S2 H2 → lcR m0 (ns.map A.D.int) gD tt te (wipeD ρ vs) Qd r ys S2 → H2 a = some (.lst (ns.map V.int)) := by
    intro w2 S2 H2 r ys s2 f2 hx
    have hm0 : m0 < S.length := by
      cases hns : (ns.map A.D.int) with
      | nil => rw [hns] at h; exact (lstAt_rel st.wf h.1).2.1
      | cons x r => rw [hns] at h; exact (lstAt_rel st.wf h.1).2.1
    have hl : lstAt S2 m0 = some (ns.map A.D.int) := by
      cases r with
      | nil => exact hx.1
      | cons x r => exact hx.1
    obtain ⟨_, _, vs2, hu, rl⟩ := lstAt_rel f2 hl
    rw [s2.ids m0 hm0, ea] at hu
    rw [hu, relL_ints_eq rl]
  refine lcB wk (fun D i H => ∃ w2 S2 ys us, Stp w S.length H1 w2 S2.length H ∧ Wf n.c w2 S2 H ∧ w2.R D ∧ (∀ m, m < S2.length → w2.i m ≠ D) ∧ H D = some (.lst us) ∧ RelL n.c w2 S2.length H ys us ∧ lcR m0 (ns.map A.D.int) gD tt te (wipeD ρ vs) Qd ((ns.map A.D.int).drop i) ys S2) ?_ ?_ ?_ ?_
  · intro D hD
    refine ⟨w.hold D, S, [], [], Stp.hold hD _, st.wf.hold hD _, .inr rfl, fun m hm z => ?_, upd_same, .nil, h⟩
    obtain ⟨ho, e, _⟩ := RelO.isAt (st.wf.obj m S[m] (by simp))
    have z : w.i m = D := z
    rw [z, hD] at e; cases e
  · rintro D i H hi ⟨w2, S2, ys, us, s2, f2, _, _, _, _, hx⟩
    exact SqL.of (gd s2 f2 hx)
  · rintro D i x H H' hD hi ⟨w2, S2, ys, us, s2, f2, hR, hn, hu, hl, hx⟩ y
    obtain ⟨rfl, hy⟩ := y
    have sm : Same H' H' := Same.refl _
    have hi' : i < ns.length := by simpa using hi
    have rd : Rel n.c w2 S2.length H' (.int (ns[i])) x := by
      rw [List.getElem?_map, List.getElem?_eq_getElem hi'] at hy
      cases hy
      exact .int _
    have sH : Stp w2 S2.length H' w2 S2.length H' := Stp.same sm
    have f3 := f2.same sm
    have hdr : (ns.map A.D.int).drop i = .int (ns[i]) :: (ns.map A.D.int).drop (i + 1) := by
      rw [List.drop_eq_getElem_cons (by simpa using hi')]
      simp
    rw [hdr] at hx
    have hx := hx.2
    have st3 : Sta n.c n.g w2 (wipeD ρ vs) S2 (wipe σ vs) H' := ⟨f3, (st.ev.stp (s2.trans sH)).wipe vs, st.gx.stp (s2.trans sH)⟩
    refine gl n.g w2 (wipeD ρ vs) S2 (wipe σ vs) H' (.int (ns[i])) x _ _ st3 rd hx fun ρ2 σ2 st4 hw hx => ⟨?_, ?_⟩
    · rw [hw]
      exact wipe_twice σ vs
    · refine ⟨w2, ρ2, S2, st4, _, _, hx, ?_, fun _ _ _ _ _ _ _ _ _ z => z.elim⟩
      rintro w5 S5 H5 b b' s5 f5 rfl hx
      have hD5 : H5 D = some (.lst us) := s5.rsv D _ (sm _ _ hu) hR hn
      have n5 : ∀ m, m < S5.length → w5.i m ≠ D := fun m hm z => by
        by_cases k : m < S2.length
        · rw [s5.ids m k] at z; exact hn m k z
        · have q := s5.new m (by omega) hm
          rw [z, sm _ _ hu] at q; cases q
      cases b with
      | false =>
        rw [if_neg Bool.false_ne_true] at hx ⊢
        exact ⟨w5, S5, ys, us, (s2.trans sH).trans s5, f5, s5.up _ hR, n5, hD5, (hl.stp sH).stp s5, hx⟩
      | true =>
        rw [if_pos rfl] at hx ⊢
        refine ⟨w5, ρ2, S5, st4.step s5 f5, _, _, hx, ?_, fun _ _ _ _ _ _ _ _ _ z => z.elim⟩
        rintro w6 S6 H6 yd yv s6 f6 ry ⟨hb, hx⟩
        have hD6 : H6 D = some (.lst us) := s6.rsv D _ hD5 (s5.up _ hR) n5
        have n6 : ∀ m, m < S6.length → w6.i m ≠ D := fun m hm z => by
          by_cases k : m < S5.length
          · rw [s6.ids m k] at z; exact n5 m k z
          · have q := s6.new m (by omega) hm
            rw [z, hD5] at q; cases q
        have hR6 := s6.up _ (s5.up _ hR)
        have m0 : Stp0 w6 S6.length H6 w6 S6.length (upd H6 D (.lst (us ++ [yv]))) := Stp0.mine hR6 hD6
        refine ⟨us, hD6, ?_, w6, S6, ys ++ [yd], us ++ [yv], Stp.mut (((s2.trans sH).trans s5).trans s6) hD, f6.mine hR6 hD6 n6, hR6, n6, upd_same, ?_, hx⟩
        · rw [← hl.len]; exact big_lt hb
        · exact ((((hl.stp sH).stp s5).stp s6).append (.cons ry .nil)).stp0 m0
  · rintro D H hD ⟨w2, S2, ys, us, s2, f2, hR, hn, hu, hl, hx⟩
    rw [show (ns.map A.D.int).drop ns.length = [] by simp] at hx
    have hx := hx.2
    exact hd D w2 S2 H ys us hD s2 f2 hR hn hu hl hx
/-- over the list that te tells, a list of ints of the row -/
def aLcR (ti : AM D) (g : AG) (tt : AM Bool) (te : AM D) (vs : List Nat) : AM D := aBind ti fun d => fun ρ S Q _ => opt (refOf d) fun m => ∃ ns : List Int, lstAt S m = some (ns.map D.int) ∧ lcR m (ns.map D.int) g tt te (wipeD ρ vs) (fun ys S' => Q (.lst ys) S') (ns.map D.int) [] S
section
variable {X : Cx} {n : Cn} {elt tg iter : Expr} {ifs : List Expr} {scope : Scope} {own : List (Str × Nat)} {pos : Pos} {ti : AM D} {g : TG} {gD : AG} {tt : AM Bool} {te : AM D}
theorem j_lcR (hc : X.calm = true) (hN : X.N.Nodup) (gl : GL n.c g gD (own.map (·.2))) (hi : JE X n iter ti) (ok : BlkOk X.N X.env.scope scope own)
    (hg : ∀ (s : Shared) (H : Hp) (C : Addr) (cl : List (Str × Addr)) (fp : List Addr), PG (X.blk s H scope (compEnvC scope cl C X.env) fp) tg g) (ht : ∀ (s : Shared) (H : Hp) (C : Addr) (cl : List (Str × Addr)) (fp : List Addr), PTs (X.blk s H scope (compEnvC scope cl C X.env) fp) ifs (upT n.no tt))
    (he : ∀ (s : Shared) (H : Hp) (C : Addr) (cl : List (Str × Addr)) (fp : List Addr), JE (X.blk s H scope (compEnvC scope cl C X.env) fp) n.no elt te) (hs : ∀ x, foldedSetIterable iter X.env x = pure x := by intro _; rfl) (hK : X.K = n.c.K := by rfl) :
    JE X n (.ListComp elt [⟨tg, iter, ifs, 0⟩] scope pos) (aLcR ti gD tt te (own.map (·.2))) := PE.imp (pe_lc hc hN (kpi_sq n.c.K hi hK) ok hg ht he hs) fun σ H Q h => by
  obtain ⟨w, ρ, S, st, h⟩ := h
  rw [tLc_eq]
  refine (upW.bind (r := Rel n.c) st h).mono ?_
  rintro v H1 ⟨w1, S1, d, st1, s1, r1, Q', E', hf, hq, _⟩
  obtain ⟨m, e1, ns, hl, hx⟩ := opt_some hf
  obtain ⟨rfl, hm, rfl⟩ := refOf_rel e1 r1
  obtain ⟨_, _, us, hu, rl⟩ := lstAt_rel st1.wf hl
  obtain rfl := relL_ints_eq rl
  refine ⟨true, w1.i m, ns.map V.int, rfl, SqL.of hu, fun J wk => ?_⟩
  refine lc_runR gl st1 rfl (by simpa using wk) hx fun D w2 S2 H2 ys us hD s2 f2 hR hn hu hl q => ?_
  obtain ⟨w3, s3, f3, r3⟩ := lc_stay st1.wf hD s2 f2 hR hn hu hl
  exact hq w3 S2 H2 _ _ s3 f3 r3 q
end
/-- items told by a function, all left as it is -/
theorem lcR_map {g : AG} {tt : AM Bool} {te : AM D} {ρ : Ev} {Q : List D → Sto → Prop} {S : Sto} {m : Nat} {ys : List D} (f : D → D) (hm : lstAt S m = some ys) {xs : List D} (hl : xs.length ≤ 1000000)
    (h : ∀ x ∈ xs, ∀ (Y : D → Sto → Prop), Y (f x) S → g x ρ fun ρ2 => tt ρ2 S (fun b S3 => b = true ∧ te ρ2 S3 Y (fun _ _ => False)) fun _ _ => False)
    (mono : ∀ (ρ2 : Ev) (P P' : Bool → Sto → Prop), (∀ b S, P b S → P' b S) → tt ρ2 S P (fun _ _ => False) → tt ρ2 S P' fun _ _ => False)
    (gm : ∀ (x : D) (P P' : Ev → Prop), (∀ r, P r → P' r) → g x ρ P → g x ρ P')
    (q : Q (xs.map f) S) : lcR m ys g tt te ρ Q xs [] S := by
  have key : ∀ (r acc : List D), (∀ x ∈ r, x ∈ xs) → acc.length + r.length ≤ 1000000 → Q (acc ++ r.map f) S → lcR m ys g tt te ρ Q r acc S := by
    intro r
    induction r with
    | nil => intro acc _ _ q; exact ⟨hm, by simpa using q⟩
    | cons x r ih =>
      intro acc hx hb q
      refine ⟨hm, ?_⟩
      have h1 := h x (hx x (by simp)) (fun y S4 => acc.length < big ∧ lcR m ys g tt te ρ Q r (acc ++ [y]) S4) ⟨Nat.lt_of_lt_of_le (m := 1000001) (by simp at hb; omega) (by decide), ih _ (fun y hy => hx y (by simp [hy])) (by simp at hb ⊢; omega) (by simpa using q)⟩
      refine gm x _ _ (fun ρ2 h2 => ?_) h1
      refine mono ρ2 _ _ (fun b S3 h3 => ?_) h2
      obtain ⟨rfl, h3⟩ := h3
      rw [if_pos rfl]
      exact h3
  exact key xs [] (fun _ h => h) (by simpa using hl) (by simpa using q)
end A

set_option Elab.async false
set_option linter.all false
set_option maxRecDepth 100000
set_option maxHeartbeats 4000000
/-! from what the top has written -/
namespace A
open PySem PySem.W PySem.Calls PySem.Spec PyProof.Rows PySem.HandSPX L2
theorem funG_mk {K : Frag} {x qual : Str} {st : Stmt} {f : Addr} {oc : Value} {od an : Option Addr} {osl : Array (Option Value)} {dV kV doc pm cdv ct : Value} (l : K.lookup f = some ⟨oc, od, .func (fnOf x qual (defArgs st) (defBody st) (defScope st) dV kV doc pm an cdv ct), osl⟩)
    (c : codeIn K cdv qual = true) (k : keepIn K (.ref f) = true) : FunG K x qual st f (fnOf x qual (defArgs st) (defBody st) (defScope st) dV kV doc pm an cdv ct) := ⟨⟨oc, od, dV, kV, doc, pm, an, cdv, ct, osl, rfl, l, c⟩, k⟩
/-- all parameters are written though there are defaults -/
theorem binds_dflt {K : Frag} {fd : FuncData} {ps : List Str} {T : Addr} {c : Value} {dd : Option Addr} {its : Array Value} {m : Nat} {sl : Array (Option Value)} {n : Nat} (lT : K.lookup T = some ⟨c, dd, .seq its m, sl⟩) (hn : its.toList.length = n)
    (h : ∀ us (is : List Value), us.length = ps.length → is.length = n → ∃ k, bindArgs fd ⟨us, []⟩ = seqItems? (.ref T) >>= k ∧ k (some is.toArray) = pure (ps.zip us)) : Binds K fd ps [] := by
  intro s us X hlen
  rw [List.append_nil] at hlen ⊢
  obtain ⟨k, e1, e2⟩ := h us its.toList hlen hn
  refine BindsTo.of_looks fun M => ?_
  rw [e1]
  exact looks_items X lT rfl (.of_pure (by simpa using e2))
/-- one keyword behind the positional values, all parameters written -/
theorem kbn_of {K : Frag} {fd : FuncData} {ps ks : List Str} {n : Nat} (h : ∀ (s : Shared) (us ws : List Value), us.length = n → ws.length = ks.length → BindsTo s fd ⟨us, ks.zip ws⟩ (ps.zip (us ++ ws))) : KBn K fd ps n ks (fun us ws => us ++ ws) (fun vs zs => vs ++ zs) :=
  ⟨fun s us ws _ l1 l2 => h s us ws l1 l2, fun r1 r2 => r1.append r2⟩
/-- an error class of two fields over one of one field -/
theorem _root_.L2.XCls2.of {P : Program} {K : Frag} {h : Heap} {mg : Str → Option Value} {nm q1 q f g pn1 pn rn : Str} {C D1 f1 fI cda cc : Addr} {od an cdd cld : Option Addr} {oc doc pm ct ccl cl : Value} {osl ccs csl : Array (Option Value)} {file : Str} {p1 p2 p3 a b c d e q' a1 b1 c1 d1 : Pos} {vs : Array Value} {tf : Tok}
    (wd : PySem.OwnX.Word2 pn rn) (X : K.In h) (G : h.Ns mainGlobals mg) (gC : nsIn K mainGlobals nm = some (some (.ref C))) (base : PySem.OwnX.Txt P K C D1 f1 q1 f pn1)
    (iC : findIn K (.ref C) "__init__" = some (some (.ref fI))) (tI : typeIn K (.ref fI) = some (.type "function"))
    (fn : K.lookup fI = some ⟨oc, od, .func (ksFn "__init__" q (PySem.OwnX.yA pn rn p1 p2 p3) (PySem.OwnX.yB g pn rn a b c d e q' a1 b1 c1 d1) (PySem.OwnX.yS pn rn) .none .none doc pm an (.ref cda) ct cc), osl⟩) (ps : (c.endLine == e.line) = true)
    (cd : codeIn K (.ref cda) q = true) (cv : K.lookup cda = some ⟨ccl, cdd, .fields vs, ccs⟩) (fl : vs[2]? = some (.str file tf)) (fm : ((P.main.file : Str) == file) = true) (ce : K.lookup cc = some ⟨cl, cld, .cell (some (.ref C)), csl⟩)
    (noN : findIn K (.ref C) g = some none) (subC : mroIn K C (.ref C) = some true) (sup : ks_superIn K C C "__init__" = some (some (.ref f1))) (tf1 : typeIn K (.ref f1) = some (.type "function")) (ff1 : fnIn K f1 = true) (nfg : f ≠ g)
    (kC : keepIn K (.ref C) = true) (exC : subIn K (.ref C) (.type "BaseException") = some true) (tyC : typeIn K (.ref C) = some (.type "type")) (ga : findIn K (.ref C) "__getattribute__" = some (some (.builtin "BaseException.__getattribute__")))
    (gg : findIn K (.ref C) "__getattr__" = some none) (hdC : hasDictIn K C = true) (su : nsIn K mainGlobals "super" = some none) : XCls2 P K mg nm C f g :=
  ⟨mg_of X G gC, ⟨D1, f1, fI, q1, q, pn1, pn, rn, ⟨base, ⟨_, _, _, _, _, _, _, _, _, _, _, _, _, _, _, _, _, _, _, _, _, _, ps, fn, cd, ⟨_, _, _, _, _, _, cv, fl, fm⟩, _, _, _, ce⟩, noN, subC, sup, tf1, ff1, wd, nfg⟩, iC, tI⟩, kC, exC, tyC, ga, gg, hdC, mg_none_of X G su⟩
/-- the text of an error class's inherited __init__ -/
theorem txt_of {P : Program} {K : Frag} {q q' f pn nm' : Str} {C D fI N cda cc : Addr} {bs bm : List Value} {sn : List Str} {sub : List Value} {ab : Bool} {col : Option Bool} {dd od an cdd cld : Option Addr} {k0 k1 k2 k3 k5 : Option Value}
    {oc doc pm ct ccl cl : Value} {osl ccs csl : Array (Option Value)} {txt file : Str} {k : Nat} {p1 p2 a b c d e q1 a1 b1 c1 d1 : Pos} {vs : Array Value} {tf : Tok} (wd : PySem.OwnX.Word pn)
    (cls : K.lookup C = some (excClassObj nm' q' C N bs bm true sn sub ab col dd k0 k1 k2 k3 k5 "ValueError.__new__")) (rv : refsVE bm = true)
    (fn : K.lookup fI = some ⟨oc, od, .func (ksFn "__init__" q (PySem.OwnX.xA pn p1 p2) (PySem.OwnX.xB txt f pn k a b c d e q1 a1 b1 c1 d1) (PySem.OwnX.xS pn) .none .none doc pm an (.ref cda) ct cc), osl⟩) (ps : (c.endLine == e.line) = true)
    (cd : codeIn K (.ref cda) q = true) (cv : K.lookup cda = some ⟨ccl, cdd, .fields vs, ccs⟩) (fl : vs[2]? = some (.str file tf)) (fm : ((P.main.file : Str) == file) = true) (ce : K.lookup cc = some ⟨cl, cld, .cell (some (.ref D)), csl⟩)
    (ini : excInitIn K C veTail "ValueError.__new__" = true) (sa : findIn K (.ref C) "__setattr__" = some (some (.builtin "object.__setattr__"))) (noN : findIn K (.ref C) f = some none) (hD : isClsIn K D = true) (subD : mroIn K C (.ref D) = some true)
    (subV : subIn K (.ref C) (.type "ValueError") = some true) (opq : nsIn K cStatics "thirdparty.any" = some none) (sup : ks_superIn K C D "__init__" = some (some (.builtin "ValueError.__init__"))) (top : (P.main.scope.names.lookup ("super" : Str)).isSome = false) : PySem.OwnX.Txt P K C D fI q f pn :=
  ⟨⟨_, _, _, _, _, _, _, _, _, _, _, _, _, _, _, cls, rv⟩, ⟨_, _, _, _, _, _, _, _, _, _, _, _, _, _, _, _, _, _, _, _, _, _, _, ps, fn, cd, ⟨_, _, _, _, _, _, cv, fl, fm⟩, _, _, _, ce⟩, ini, sa, noN, hD, subD, subV, opq, sup, top, wd⟩
theorem _root_.L2.XCls2.xf {P : Program} {K : Frag} {mg : Str → Option Value} {nm f g : Str} {C : Addr} (T : XCls2 P K mg nm C f g) : XfC K C := ⟨T.ga, T.gg, T.exC, T.hdC⟩
theorem _root_.L2.XCls2.noF {P : Program} {K : Frag} {mg : Str → Option Value} {nm f g : Str} {C : Addr} (T : XCls2 P K mg nm C f g) : findIn K (.ref C) f = some none ∧ findIn K (.ref C) g = some none := by
  obtain ⟨_, _, _, _, _, _, _, _, h, _⟩ := T.how
  exact ⟨h.base.noN, h.noN⟩
end A

set_option Elab.async false
set_option linter.all false
set_option maxRecDepth 100000
set_option maxHeartbeats 4000000
/-! own operators, over the layer of trees -/
namespace A
open PySem PySem.Spec PyProof.Rows L2
/-- what may stand on the right of an own comparison -/
def rightOk (S : Sto) (C : Str) (Ts : List String) (e : D) : Prop := (∃ fs, insOf S e C = some fs) ∨ ∃ T, tyN S e = some T ∧ T ∈ Ts
structure RtO (K : PySem.W.Frag) (C : Addr) (Ts : List String) : Prop where
  i : C8.InsC K C
  n : ∀ T ∈ Ts, PySem.W.notFirst K C (.type T) = true
section
variable {c : Cg} {w : Wd} {S : Sto} {H : Hp} {C : Str} {Ts : List String} {sp : ASp}
theorem rightOk_rel {e : D} {y : V} (R : RtO c.K (c.cA C) Ts) (f : Wf c w S H) (h : rightOk S C Ts e) (r : Rel c w S.length H e y) : ∃ t, TyX c.K H y t ∧ PySem.W.notFirst c.K (c.cA C) t = true := by
  rcases h with ⟨fs, h⟩ | ⟨T, h, hT⟩
  · obtain ⟨a, dx, fs', rfl, ha, _, _⟩ := insOf_rel f h r
    exact ⟨.ref (c.cA C), .base (.ins ha R.i.cl R.i.ha R.i.hn R.i.htk R.i.hm), by simp [PySem.W.notFirst]⟩
  · exact ⟨.type T, (tyN_rel f h r).1, R.n T hT⟩
theorem ins_rel {d : D} {x : V} {fs : List (Str × D)} (f : Wf c w S H) (h : insOf S d C = some fs) (r : Rel c w S.length H d x) : Ins H (c.cA C) x := by
  obtain ⟨a, dx, fs', rfl, ha, _, _⟩ := insOf_rel f h r
  exact ⟨a, dx, fs', rfl, ha⟩
def dCmpO (C : Str) (Ts : List String) (sp : ASp) : F2 := fun d e S Q => opt (insOf S d C) fun _ => rightOk S C Ts e ∧ sp [d, e] S Q fun _ _ => False
def dNeO (C : Str) (Ts : List String) (sp : ASp) : F2 := fun d e S Q => opt (insOf S d C) fun _ => rightOk S C Ts e ∧ sp [d, e] S (fun v S' => opt (asB v) fun b => Q (.bl (!b)) S') fun _ _ => False
def dInO (C : Str) (sp : ASp) (neg : Bool) : F2 := fun d e S Q => opt (insOf S e C) fun _ => sp [e, d] S (fun v S' => opt (asB v) fun b => Q (.bl (b != neg)) S') fun _ _ => False
theorem os_cmpO (R : RtO c.K (c.cA C) Ts) : OpS c (dCmpO C Ts sp) (rCmpO c.K (c.cA C) (upSp c sp)) := by
  intro w S H d e x y Q' Q f r1 r2 h k
  obtain ⟨fs, e1, hr, h⟩ := opt_some h
  exact ⟨ins_rel f e1 r1, rightOk_rel R f hr r2, w, S, [d, e], Q', _, f, .cons r1 (.cons r2 .nil), h, k, fun _ _ _ _ _ _ _ _ _ z => z.elim⟩
theorem os_neO (R : RtO c.K (c.cA C) Ts) : OpS c (dNeO C Ts sp) (rNeO c.K (c.cA C) (upSp c sp)) := by
  intro w S H d e x y Q' Q f r1 r2 h k
  obtain ⟨fs, e1, hr, h⟩ := opt_some h
  refine ⟨ins_rel f e1 r1, rightOk_rel R f hr r2, w, S, [d, e], _, _, f, .cons r1 (.cons r2 .nil), h, fun w' S' H' v u s' f' rv q => ?_, fun _ _ _ _ _ _ _ _ _ z => z.elim⟩
  obtain ⟨b, ev, q⟩ := opt_some q
  obtain ⟨rfl, rfl⟩ := asB_rel ev rv
  exact ⟨b, rfl, k w' S' H' _ _ s' f' (.bl _) q⟩
theorem os_inO {neg : Bool} : OpS c (dInO C sp neg) (rInO (c.cA C) (upSp c sp) neg) := by
  intro w S H d e x y Q' Q f r1 r2 h k
  obtain ⟨fs, e1, h⟩ := opt_some h
  refine ⟨ins_rel f e1 r2, w, S, [e, d], _, _, f, .cons r2 (.cons r1 .nil), h, fun w' S' H' v u s' f' rv q => ?_, fun _ _ _ _ _ _ _ _ _ z => z.elim⟩
  obtain ⟨b, ev, q⟩ := opt_some q
  obtain ⟨rfl, rfl⟩ := asB_rel ev rv
  exact ⟨b, rfl, k w' S' H' _ _ s' f' (.bl _) q⟩
end
theorem kop_eqO {X : Cx} {K : PySem.W.Frag} {k n : Nat} {C : Addr} {sp : Sp} (M : Own X.prog X.w K X.mg X.base k C "__eq__" sp) (hr : Room n X.A) (hk : k ≤ n) (hK : X.K = K := by rfl) : OpR X (compareOp .Eq) (rCmpO K C sp) := by
  subst hK
  exact op_cmpO (op := .Eq) (fun _ _ => rfl) M hr hk
theorem kop_leO {X : Cx} {K : PySem.W.Frag} {k n : Nat} {C : Addr} {sp : Sp} (M : Own X.prog X.w K X.mg X.base k C "__le__" sp) (hr : Room n X.A) (hk : k ≤ n) (hK : X.K = K := by rfl) : OpR X (compareOp .LtE) (rCmpO K C sp) := by
  subst hK
  exact op_cmpO (op := .LtE) (fun _ _ => rfl) M hr hk
structure NeO (K : PySem.W.Frag) (C : Addr) : Prop where
  ne : PySem.W.findIn K (.ref C) "__ne__" = some (some (.builtin "object.__ne__"))
  ob : PySem.W.subIn K (.ref C) (.type "object") = some true
theorem kop_neO {X : Cx} {K : PySem.W.Frag} {k n : Nat} {C : Addr} {sp : Sp} (M : Own X.prog X.w K X.mg X.base k C "__eq__" sp) (N : NeO K C) (hr : Room n X.A) (hk : k + 1 ≤ n) (hK : X.K = K := by rfl) : OpR X (compareOp .NotEq) (rNeO K C sp) := by
  subst hK
  exact op_neO M N.ne N.ob hr hk
theorem kop_inO {X : Cx} {K : PySem.W.Frag} {k n : Nat} {C : Addr} {sp : Sp} (M : Own X.prog X.w K X.mg X.base k C "__contains__" sp) (hr : Room n X.A) (hk : k ≤ n) (hK : X.K = K := by rfl) : OpR X (compareOp .In) (rInO C sp false) := by
  subst hK
  exact op_inO M hr hk
theorem kop_notInO {X : Cx} {K : PySem.W.Frag} {k n : Nat} {C : Addr} {sp : Sp} (M : Own X.prog X.w K X.mg X.base k C "__contains__" sp) (hr : Room n X.A) (hk : k ≤ n) (hK : X.K = K := by rfl) : OpR X (compareOp .NotIn) (rInO C sp true) := by
  subst hK
  exact op_notInO M hr hk
/-! truth -/
def aTruO (C : Str) (sp : ASp) (t : AM D) : AM Bool := aBind t fun x => fun _ S Q _ => opt (insOf S x C) fun _ => sp [x] S (fun v S' => opt (asB v) fun b => Q b S') fun _ _ => False
section
variable {X : Cx} {n : Cn} {k r : Nat} {sp : ASp} {C : Str} {e a b : Expr} {ta tb : AM D} {pos : Pos}
theorem jt_truO (M : Own X.prog X.w X.K X.mg X.base k (n.c.cA C) "__bool__" (upSp n.c sp)) (hr : Room r X.A) (hk : k ≤ r) (h : JE X n e ta) (he : ∀ whole, isTrue e X.env whole = (do let v ← whole; standAt e.pos; holding [v] (truthy v)) := by intro _; rfl) : JT X n e (aTruO C sp ta) := by
  refine PT.imp (pt_truthR h (tru_O M hr hk) he) fun σ H Q ⟨w, ρ, S, st, h⟩ => ?_
  refine (upW.bind st h).mono ?_
  rintro x H1 ⟨w1, S1, d, st1, _, r1, h1⟩
  refine h1.op fun Q' hf hq => ?_
  obtain ⟨fs, e1, hf⟩ := opt_some hf
  refine ⟨ins_rel st1.wf e1 r1, w1, S1, [d], _, _, st1.wf, .cons r1 .nil, hf, fun w' S' H' v u s' f' rv q => ?_, fun _ _ _ _ _ _ _ _ _ z => z.elim⟩
  obtain ⟨b, ev, q⟩ := opt_some q
  obtain ⟨rfl, rfl⟩ := asB_rel ev rv
  exact ⟨b, rfl, hq w' S' H' b b s' f' rfl q⟩
/-! bool(x) -/
theorem meets_bool_own {prog : Program} {w : World} (a : Addr) : MeetsIn prog w (Builtin.«bool.__new__» ⟨[.type "bool", .ref a], []⟩) (fun A R s => wpAny (model prog w) A.in1 (truthy (.ref a)) (fun b s' => R (.ok (.ret (.bool b))) s') (fun e s' => R (.error e) s') s) :=
  MeetsIn.of_wp fun A R s h => by
    obtain ⟨hp, g, d, tk, os⟩ := s
    have f1 := F.conv_sub_bool
    repeat (any_goals (first | assumption | (with_reducible refine wpAny_mono h ?_ ?_) | wp_step))
    all_goals first | exact fun _ _ z => z | (intro b s' q; exact wpAny_pure ⟨_, rfl, q⟩)
def rBoolO (C : Addr) (sp : Sp) : List V → Hp → VK → Prop := fun xs H Q => ∃ x, xs = [x] ∧ Ins H C x ∧ sp [x] H (fun v H' => ∃ b : Bool, v = .bl b ∧ Q (.bl b) H') EF
theorem call_boolO {C : Addr} {sp : Sp} (M : Own X.prog X.w X.K X.mg X.base k C "__bool__" sp) (hr : Room r X.A) (hk : k + 2 ≤ r) : CallR X (.type "bool") (rBoolO C sp) := by
  obtain ⟨f, hs, hf, F⟩ := M.ex
  intro pins s σ H xs us Q I rv h
  obtain ⟨x, rfl, hi, q⟩ := h
  cases rv with
  | cons r1 r2 =>
    cases r2
    obtain ⟨a, ox, od, rfl, rfl, J⟩ := hi.inst I r1
    obtain ⟨mm, hF⟩ := I.fr
    have hr2 : Room k X.A.in1.in1 := (hr.mono hk).in1.in1
    refine callType_newIn PySem.F.called_bool PySem.F.newNe_bool (PySem.F.typeCall_bool_1 _) (PySem.F.newCall_bool_1 _) (fun obj => PySem.F.args_object_init_2 obj _) PySem.F.entry_bool_new (meets_bool_own a) ?_
    refine PySem.W.truthy_K hF I.ok.mod.kin J hs hf (wpAny_mono (run_raw (E := EN) F hr2 I.env0.in1.in1 (passN rfl rfl σ) I (.cons (rel_ref a) .nil) q) (fun w s' z => ?_) fun _ _ z => z)
    obtain ⟨z', H', I', rz, b, rfl, qz⟩ := z
    cases (show w = Value.bool b from rz)
    exact ⟨rfl, .bl b, H', I', rfl, qz⟩
def fBoolO (C : Str) (sp : ASp) : FN := fun ds S Q => opt (one1 ds) fun d => opt (insOf S d C) fun _ => sp [d] S (fun v S' => opt (asB v) fun b => Q (.bl b) S') fun _ _ => False
theorem cs_boolO {c : Cg} : CallS c (fBoolO C sp) (rBoolO (c.cA C) (upSp c sp)) := by
  intro w S H ds xs Q' Q f rl h k
  obtain ⟨d, e1, h⟩ := opt_some h
  obtain ⟨x, rfl, rd⟩ := one_rel e1 rl
  obtain ⟨fs, ei, h⟩ := opt_some h
  refine ⟨x, rfl, ins_rel f ei rd, w, S, [d], _, _, f, .cons rd .nil, h, fun w' S' H' v u s' f' rv q => ?_, fun _ _ _ _ _ _ _ _ _ z => z.elim⟩
  obtain ⟨b, ev, q2⟩ := opt_some q
  obtain ⟨rfl, rfl⟩ := asB_rel ev rv
  exact ⟨b, rfl, k w' S' H' _ _ s' f' (.bl b) q2⟩
/-! x op y, ~x by the own def, which may raise -/
def rightB (S : Sto) (C : Str) (y : D) : Prop := (∃ fs, insOf S y C = some fs) ∨ ∃ i, y = .int i
/-- the class at C takes an int on the right -/
structure RtI (K : PySem.W.Frag) (C : Addr) (nm : String) : Prop where
  h1 : (PySem.W.findIn K (.type "int") (PySem.dunder nm)).isSome = true
  h2 : (PySem.W.findIn K (.type "int") (dunderR nm)).isSome = true
  hs : PySem.W.subIn K (.type "int") (.ref C) = some false
  hr : ∃ rc, PySem.W.findIn K (.ref C) (dunderR nm) = some rc ∧ (rc = none ∨ ∃ g : Addr, rc = some (.ref g))
def aBinO (C : Str) (sp : ASp) (ta tb : AM D) : AM D := aBind ta fun x => aBind tb fun y => fun _ S Q E => opt (insOf S x C) fun _ => (∃ fs, insOf S y C = some fs) ∧ sp [x, y] S Q E
def aBinI (C : Str) (sp : ASp) (ta tb : AM D) : AM D := aBind ta fun x => aBind tb fun y => fun _ S Q E => opt (insOf S x C) fun _ => rightB S C y ∧ sp [x, y] S Q E
theorem j_binO {op : Operator} (M : Own X.prog X.w X.K X.mg X.base k (n.c.cA C) (PySem.dunder op.info.2) (upSp n.c sp)) (sf : PySem.W.selfFirst X.K (n.c.cA C) = true) (hr : Room r X.A) (hk : k ≤ r) (hx : ∀ σ, PassesAt (L2N.CX X.prog X.w) X σ (WE n.W σ))
    (ha : JE X n a ta) (hb : JE X n b tb) : JE X n (.BinOp a op b pos) (aBinO C sp ta tb) := by
  refine PE.imp (pe_binO M sf hr hk hx ha hb) fun σ H Q ⟨w, ρ, S, st, h⟩ => ?_
  refine (upW.bind st h).mono ?_
  rintro x H1 ⟨w1, S1, d, st1, _, r1, h1⟩
  refine (upW.bind st1 h1).mono ?_
  rintro y H2 ⟨w2, S2, e, st2, s2, r2, Q2, E2, h2, hq2, he2⟩
  obtain ⟨fs, e1, ⟨fs', e2⟩, h2⟩ := opt_some h2
  exact ⟨ins_rel st2.wf e1 (r1.stp s2), .same (ins_rel st2.wf e2 r2), upSp.of (ρ := ρ) ⟨Q2, E2, h2, hq2, he2⟩ st2.wf (.cons (r1.stp s2) (.cons r2 .nil))⟩
theorem j_binI {op : Operator} (M : Own X.prog X.w X.K X.mg X.base k (n.c.cA C) (PySem.dunder op.info.2) (upSp n.c sp)) (sf : PySem.W.selfFirst X.K (n.c.cA C) = true) (ri : RtI X.K (n.c.cA C) op.info.2) (hr : Room r X.A) (hk : k ≤ r) (hx : ∀ σ, PassesAt (L2N.CX X.prog X.w) X σ (WE n.W σ))
    (ha : JE X n a ta) (hb : JE X n b tb) : JE X n (.BinOp a op b pos) (aBinI C sp ta tb) := by
  refine PE.imp (pe_binO M sf hr hk hx ha hb) fun σ H Q ⟨w, ρ, S, st, h⟩ => ?_
  refine (upW.bind st h).mono ?_
  rintro x H1 ⟨w1, S1, d, st1, _, r1, h1⟩
  refine (upW.bind st1 h1).mono ?_
  rintro y H2 ⟨w2, S2, e, st2, s2, r2, Q2, E2, h2, hq2, he2⟩
  obtain ⟨fs, e1, hR, h2⟩ := opt_some h2
  have fin := upSp.of (ρ := ρ) ⟨Q2, E2, h2, hq2, he2⟩ st2.wf (.cons (r1.stp s2) (.cons r2 .nil))
  rcases hR with ⟨fs', e2⟩ | ⟨i, rfl⟩
  · exact ⟨ins_rel st2.wf e1 (r1.stp s2), .same (ins_rel st2.wf e2 r2), fin⟩
  · cases r2
    exact ⟨ins_rel st2.wf e1 (r1.stp s2), .int i ri.h1 ri.h2 ri.hs ri.hr, fin⟩
def aInvO (C : Str) (sp : ASp) (ta : AM D) : AM D := aBind ta fun x => fun _ S Q E => opt (insOf S x C) fun _ => sp [x] S Q E
theorem j_invO (M : Own X.prog X.w X.K X.mg X.base k (n.c.cA C) "__invert__" (upSp n.c sp)) (hr : Room r X.A) (hk : k ≤ r) (hx : ∀ σ, PassesAt (L2N.CX X.prog X.w) X σ (WE n.W σ)) (ha : JE X n a ta) : JE X n (.UnaryOp .Invert a pos) (aInvO C sp ta) := by
  refine PE.imp (pe_invO M hr hk hx ha) fun σ H Q ⟨w, ρ, S, st, h⟩ => ?_
  refine (upW.bind st h).mono ?_
  rintro x H1 ⟨w1, S1, d, st1, _, r1, Q2, E2, h2, hq2, he2⟩
  obtain ⟨fs, e1, h2⟩ := opt_some h2
  exact ⟨ins_rel st1.wf e1 r1, upSp.of (ρ := ρ) ⟨Q2, E2, h2, hq2, he2⟩ st1.wf (.cons r1 .nil)⟩
end
end A

set_option Elab.async false
set_option linter.all false
set_option maxRecDepth 100000
set_option maxHeartbeats 4000000
/-! d.get(k), defs called with keywords, defaults -/
namespace A
open PySem PySem.Spec PyProof.Rows L2
section
variable {X : Cx} {n : Cn} {k r : Nat} {sp : ASp} {C x : Str} {e o : Expr} {es : List Expr} {ta tb : AM D} {t tk : AM (List D)} {pos apos p : Pos}
theorem valV_none {k : Str} : ∀ {fs : List (Str × D)} {kvs : List (Key × V)}, kvs.map (·.1) = fs.map (fun p => Sum.inr p.1) → fs.lookup k = none → valV kvs (Sum.inr k) = none
  | [], [], _, _ => rfl
  | [], _ :: _, h, _ => by simp at h
  | _ :: _, [], h, _ => by simp at h
  | (a, x) :: fs, (b, y) :: kvs, h, hd => by
    simp only [List.map_cons, List.cons.injEq] at h
    obtain ⟨rfl, h⟩ := h
    simp only [List.lookup_cons] at hd
    by_cases z : a = k
    · subst z
      simp at hd
    · have zb : (k == a) = false := by simpa using fun q => z q.symm
      rw [zb] at hd
      have h1 := valV_none h hd
      unfold valV at h1 ⊢
      rw [List.find?_cons_of_neg (by simpa using z)]
      exact h1
def aDGetM (ta tb : AM D) : AM D := aBind ta fun d => fun ρ S Q E => opt (refOf d) fun m => opt (dctAt S m) fun _ => aBind tb (fun i => fun _ S Q _ => opt (dctAt S m) fun kvs => opt (asS i) fun k => Q ((kvs.lookup k).getD .non) S) ρ S Q E
theorem j_dgetM (hu : X.A.units + 1 < cLine) (ho : JE X n o ta) (hi : JE X n e tb) (m : M1 X o "get" apos e pos) : JE X n (.Call (.Attribute o "get" apos) [e] [] pos) (aDGetM ta tb) := PE.imp (pe_dget1 hu ho hi m) fun σ H Q ⟨w, ρ, S, st, h⟩ => by
  refine (upW.bind st h).mono ?_
  rintro x H1 ⟨w1, S1, d, st1, _, r1, Q', E', h1, hq, he⟩
  obtain ⟨m, e1, h1a⟩ := opt_some h1
  obtain ⟨kvs0, e0, h1b⟩ := opt_some h1a
  clear h1 h1a
  obtain ⟨rfl, hm, rfl⟩ := refOf_rel e1 r1
  obtain ⟨_, _, kvs0', hu0, hn0, hl0⟩ := dctAt_rel st1.wf e0
  refine ⟨_, rfl, .inl ⟨_, .inl hu0⟩, ?_⟩
  have h1 : upW n.c n.W (Rel n.c) (aBind tb fun i => fun _ S Q _ => opt (dctAt S m) fun kvs => opt (asS i) fun k => Q ((kvs.lookup k).getD .non) S) w1 ρ S1 σ H1 Q := ⟨Q', E', h1b, hq, he⟩
  refine (upW.bind st1 h1).mono ?_
  rintro y H2 ⟨w2, S2, i, st2, s2, r2, h2⟩
  refine h2.op fun Q' hf hq => ?_
  obtain ⟨kvs, e2, hf⟩ := opt_some hf
  obtain ⟨k, e3, q⟩ := opt_some hf
  obtain ⟨_, rfl⟩ := asS_rel e3 r2
  obtain ⟨_, _, kvs', hu', hn, hl⟩ := dctAt_rel st2.wf e2
  rw [s2.ids m hm] at hu'
  have g := DGet.k (k := Sum.inr k) hu'
  cases ev : kvs.lookup k with
  | none =>
    rw [valV_none hn ev] at g
    rw [ev] at q
    exact ⟨none, g, fin0 st2.wf hq .non q⟩
  | some d =>
    obtain ⟨u, hu2, ru⟩ := valV_rel hn hl d ev
    rw [hu2] at g
    rw [ev] at q
    exact ⟨some u, g, fin0 st2.wf hq ru q⟩
/-! ### f(e, .., k = v, ..) -/
structure FncK (P : Program) (w : World) (K : PySem.W.Frag) (mg : Str → Option Value) (base : Heap) (k : Nat) (x : Str) (na : Nat) (ks : List Str) (sp : Sp) : Prop where
  ex : ∃ f fd ps g, mg x = some (.ref f) ∧ PySem.W.keepIn K (.ref f) = true ∧ FnOk P w K mg base (L2N.CX P w) k f fd ps sp ∧ KBn K fd ps na ks g (fun vs zs => vs ++ zs)
def aCallK (na nk : Nat) (sp : ASp) (t tk : AM (List D)) : AM D := aBind t fun ds => aBind tk fun zs => fun _ S Q E => ds.length = na ∧ zs.length = nk ∧ sp (ds ++ zs) S Q E
def tCallK (na nk : Nat) (sp : Sp) (E : L2.St → XK) (t tk : TA) : TE := fun σ H Q => t σ H fun vs H1 => tk σ H1 fun zs H2 => vs.length = na ∧ zs.length = nk ∧ sp (vs ++ zs) H2 Q (E σ)
theorem pe_fcK {na : Nat} {ks : List Str} {sp : Sp} {E : L2.St → XK} {t tk : TA} {kws : List Keyword} (c : FncK X.prog X.w X.K X.mg X.base k x na ks sp) (hr : Room r X.A) (hk : k ≤ r) (hg : Gl X x) (hx : ∀ σ, PassesAt (L2N.CX X.prog X.w) X σ (E σ))
    (ha : PA X (e :: es) t) (hkw : PK X kws tk) (hall : (backToKw pos (keywordEach kws X.env)).all (·.1.isSome) = true := by rfl) (hks : (backToKw pos (keywordEach kws X.env)).filterMap (·.1) = ks := by rfl)
    (hdb : (x == ("__debug__" : Str)) = false := by decide) (he : starEach (e :: es) X.env = (false, eval e X.env) :: starEach es X.env := by rfl)
    (hpl : ((backTo pos (starEach (e :: es) X.env)).any (·.1) || (backToKw pos (keywordEach kws X.env)).any (·.1.isNone)) = false := by rfl) :
    PE X (.Call (.Name x p) (e :: es) kws pos) (tCallK na ks.length sp E t tk) := by
  obtain ⟨f, fd, ps, g, hm, kp, F, hb⟩ := c.ex
  refine ⟨fun pins s σ H Q I h => wpAny_Call_Name_kw (ld_glob I hg hm ?_ hdb)⟩
  refine PySem.W.callWith_KW (h₀ := X.base) I.ok.mod.kin kp hall (thn (ha.run pos pins s σ H _ I h) fun us s1 ⟨vs, H1, I1, r1, q⟩ => ?_) hpl he
  refine thn (hkw.run pos pins s1 σ H1 _ I1 q) fun ws s2 ⟨zs, H2, I2, rz, l1, l2, q2⟩ => ⟨I2.kIn, ?_⟩
  rw [hks]
  have rr := hb.rel r1 rz
  refine wpAny_call (codeAny_mono (F.run X.A X.stack s2 H2 ⟨us, ks.zip ws⟩ _ _ Q (E σ) (hr.mono hk) I2.env0 (hb.to s2 us ws I2.kIn (r1.length.symm.trans l1) (rz.length.symm.trans l2)) rr q2) fun res s' hq => ?_)
  rcases res with e | fl
  · exact hx σ pins H2 s2 e s' I2 hq
  rcases fl with _ | _ | _ | u
  · exact hq.elim
  · exact hq.elim
  · exact hq.elim
  · exact I2.after hq
theorem j_fcK {na : Nat} {ks : List Str} {kws : List Keyword} (c : FncK X.prog X.w X.K X.mg X.base k x na ks (upSp n.c sp)) (hr : Room r X.A) (hk : k ≤ r) (hg : Gl X x) (hx : ∀ σ, PassesAt (L2N.CX X.prog X.w) X σ (WE n.W σ))
    (ha : JA X n (e :: es) t) (hkw : JK X n kws tk) (hall : (backToKw pos (keywordEach kws X.env)).all (·.1.isSome) = true := by rfl) (hks : (backToKw pos (keywordEach kws X.env)).filterMap (·.1) = ks := by rfl)
    (hdb : (x == ("__debug__" : Str)) = false := by decide) (he : starEach (e :: es) X.env = (false, eval e X.env) :: starEach es X.env := by rfl)
    (hpl : ((backTo pos (starEach (e :: es) X.env)).any (·.1) || (backToKw pos (keywordEach kws X.env)).any (·.1.isNone)) = false := by rfl) :
    JE X n (.Call (.Name x p) (e :: es) kws pos) (aCallK na ks.length sp t tk) := by
  refine PE.imp (pe_fcK c hr hk hg hx ha hkw hall hks hdb he hpl) fun σ H Q h => ?_
  obtain ⟨w, ρ, S, st, h⟩ := h
  refine (upW.bind st h).mono ?_
  rintro vs H1 ⟨w1, S1, ds, st1, _, r1, h1⟩
  refine (upW.bind st1 h1).mono ?_
  rintro zs H2 ⟨w2, S2, es, st2, s2, r2, Q2, E2, ⟨l1, l2, h2⟩, hq2, he2⟩
  exact ⟨r1.len.symm.trans l1, r2.len.symm.trans l2, upSp.of (ρ := ρ) ⟨Q2, E2, h2, hq2, he2⟩ st2.wf ((r1.stp s2).append r2)⟩
end
/-! ### defaults -/
/-- the same promise, the last values left to their defaults -/
def dflSp (l : List D) (sp : ASp) : ASp := fun ds S Q E => sp (ds ++ l) S Q E
section
variable {P : Program} {w : World} {K : PySem.W.Frag} {mg : Str → Option Value} {base : Heap} {k : Nat} {f : Addr} {fd : FuncData} {ps : List Str} {x : Str}
theorem fnR_dfl {c : Cg} {sp : ASp} {l : List D} {dvs : List V} {dus : List Value} (F : FnOk P w K mg base (L2N.CX P w) k f fd ps (upSp c sp)) (hb : Binds K fd ps dus) (hv : Vals dvs dus) (hl : ∀ w N H, RelL c w N H l dvs) : FnR P w K mg base (L2N.CX P w) k f (upSp c (dflSp l sp)) :=
  (FnOk.raw (ds := dus) (dvs := dvs) F hb hv).imp fun vs H Q E h => by
    obtain ⟨w', S, ds, Q', E', f', r, ht, hq, he⟩ := h
    exact ⟨w', S, ds ++ l, Q', E', f', r.append (hl _ _ _), ht, hq, he⟩
end
end A

set_option Elab.async false
set_option linter.all false
set_option maxRecDepth 100000
set_option maxHeartbeats 4000000
/-! what a def lays for itself alone is left behind -/
namespace A
open PySem PySem.Spec PyProof.Rows L2
/-- the same promise: all that stood at the call stands as it did, what is given back is frozen -/
def pureSp (sp : ASp) : ASp := fun ds S Q E => sp ds S (fun d S' => ∃ T r, S' = S ++ T ∧ frz S' S.length d = some r ∧ Q r S) (fun x S' => ∃ T, S' = S ++ T ∧ cls S.length x.vs = true ∧ E x S)
theorem wf_cl {c : Cg} {w : Wd} {S : Sto} {H : Hp} (f : Wf c w S H) : ∀ o ∈ S, clO S.length o = true := fun o ho => by
  obtain ⟨n, e⟩ := List.getElem?_of_mem ho
  exact RelO.clO (f.obj n o e)
theorem pureSp_up {c : Cg} {sp : ASp} (vs : List V) (H : Hp) (Q : VK) (E : XK) (h : upSp c (pureSp sp) vs H Q E) : upSp c sp vs H Q E := by
  obtain ⟨w, S, ds, Q', E', f, r, ht, hq, he⟩ := h
  have k := wf_cl f
  refine ⟨w, S, ds, _, _, f, r, ht, ?_, ?_⟩
  · rintro w' S' H' d v s f' rd ⟨T, y, rfl, hz, q⟩
    have fc := f.cut s f' rfl k
    exact hq w S H' y v s.cut fc (frz_rel f s f' hz rd) q
  · rintro w' S' H' x cl d s f' rx ⟨T, rfl, kx, q⟩
    have fc := f.cut s f' rfl k
    exact he w S H' x cl d s.cut fc (rx.cut s.up s.ids kx) q
theorem _root_.L2.Fnc.pure {P : Program} {w : World} {K : PySem.W.Frag} {mg : Str → Option Value} {base : Heap} {k : Nat} {x : Str} {c : Cg} {sp sp' : ASp} (F : Fnc P w K mg base k x (upSp c sp)) (h : ∀ ds S Q E, sp' ds S Q E → pureSp sp ds S Q E) : Fnc P w K mg base k x (upSp c sp') :=
  F.imp fun vs H Q E z => pureSp_up vs H Q E (by
    obtain ⟨w', S, ds, Q', E', f, r, ht, hq, he⟩ := z
    exact ⟨w', S, ds, Q', E', f, r, h ds S Q' E' ht, hq, he⟩)
/-! data names nothing of the row -/
mutual
theorem cl_pd {N : Nat} : ∀ {d : D}, isPd d = true → cl N d = true
  | .non, _ => rfl
  | .bl _, _ => rfl
  | .int _, _ => rfl
  | .str _, _ => rfl
  | .tup xs, h => by simp only [cl]; exact cls_pd (by simpa [isPd] using h)
  | .lst xs, h => by simp only [cl]; exact cls_pd (by simpa [isPd] using h)
  | .obj _ _ _, h => by simp [isPd] at h
  | .ref _, h => by simp [isPd] at h
  | .ty _, h => by simp [isPd] at h
  | .cl _, h => by simp [isPd] at h
  | .adr _, h => by simp [isPd] at h
  | .scr _, h => by simp [isPd] at h
theorem cls_pd {N : Nat} : ∀ {ds : List D}, isPds ds = true → cls N ds = true
  | [], _ => rfl
  | d :: ds, h => by
    have h' : isPd d = true ∧ isPds ds = true := by simpa [isPds] using h
    simp [cls, cl_pd h'.1, cls_pd h'.2]
end
/-- a new list of data, given back -/
theorem frz_new {S T : Sto} {n : Nat} {xs : List D} (hn : S.length ≤ n) (h : (S ++ T)[n]? = some (.lst xs)) (hx : isPds xs = true) : frz (S ++ T) S.length (.ref n) = some (.lst xs) := by
  simp only [frz, h, cls_pd hx, if_true]
  rw [if_neg (by omega)]
end A

set_option Elab.async false
set_option linter.all false
set_option maxRecDepth 100000
set_option maxHeartbeats 4000000
/-! x in a list or tuple of data of any depth -/
namespace A
open PySem PySem.Spec PyProof.Rows L2
def rInDA (K : PySem.W.Frag) (neg : Bool) : R2 := fun x y H Q => ∃ d ds, Dp K H x d ∧ SeqAt.shaped d = true ∧ ((Dp K H y (.list ds) ∧ SeqAt.shaped (.list ds) = true) ∨ (Dp K H y (.tuple ds) ∧ SeqAt.shaped (.tuple ds) = true)) ∧ Q (.bl ((ds.any fun z => PyData.eqv z d) != neg)) H
section
variable {X : Cx}
theorem op_inDA (K : PySem.W.Frag) (hu : X.A.units + 65 < cLine) (hK : X.K = K := by rfl) : OpR X (compareOp .In) (rInDA K false) := by
  subst hK
  intro pins s σ H x y v u Q I rx ry h
  obtain ⟨d, ds, hd, sd, hy, q⟩ := h
  rw [bxf] at q
  obtain ⟨as, r1⟩ := Dp.reads I d x v hd rx
  rcases hy with ⟨he, se⟩ | ⟨he, se⟩
  · obtain ⟨bs, r2⟩ := Dp.reads I (.list ds) y u he ry
    exact SeqAt.in_list_reads r2 r1 (SeqAt.canLay_of_shaped se) (SeqAt.canLay_of_shaped sd) (room_in_shaped sd hu) ⟨.bl _, H, I, rfl, q⟩
  · obtain ⟨bs, r2⟩ := Dp.reads I (.tuple ds) y u he ry
    exact SeqAt.in_tuple_reads r2 r1 (SeqAt.canLay_of_shaped se) (SeqAt.canLay_of_shaped sd) (room_in_shaped sd hu) ⟨.bl _, H, I, rfl, q⟩
theorem op_notInDA (K : PySem.W.Frag) (hu : X.A.units + 65 < cLine) (hK : X.K = K := by rfl) : OpR X (compareOp .NotIn) (rInDA K true) := by
  subst hK
  intro pins s σ H x y v u Q I rx ry h
  obtain ⟨d, ds, hd, sd, hy, q⟩ := h
  rw [bxt] at q
  obtain ⟨as, r1⟩ := Dp.reads I d x v hd rx
  rcases hy with ⟨he, se⟩ | ⟨he, se⟩
  · obtain ⟨bs, r2⟩ := Dp.reads I (.list ds) y u he ry
    exact SeqAt.notIn_list_reads r2 r1 (SeqAt.canLay_of_shaped se) (SeqAt.canLay_of_shaped sd) (room_in_shaped sd hu) ⟨.bl _, H, I, rfl, q⟩
  · obtain ⟨bs, r2⟩ := Dp.reads I (.tuple ds) y u he ry
    exact SeqAt.notIn_tuple_reads r2 r1 (SeqAt.canLay_of_shaped se) (SeqAt.canLay_of_shaped sd) (room_in_shaped sd hu) ⟨.bl _, H, I, rfl, q⟩
end
/-- what stands in a frozen list, a list of the row, a tuple -/
def dsv (S : Sto) : D → Option (List D)
  | .tup xs => some xs
  | .lst xs => some xs
  | .ref n => match S[n]? with
    | some (.lst xs) => some xs
    | _ => none
  | _ => none
def dInD (neg : Bool) : F2 := fun d e S Q => opt (dsv S e) fun xs => (dat (rd S d) = true ∧ dat (rd S e) = true) ∧ Q (.bl ((xs.any fun y => eqD y (rd S d)) != neg)) S
theorem any_pds {p : D} : ∀ {xs : List D}, ((pds xs).any fun z => PyData.eqv z (pd p)) = xs.any fun y => eqD y p
  | [] => rfl
  | x :: r => by simp only [pds, List.any_cons, any_pds (xs := r)]; rfl
theorem os_inD {c : Cg} {neg : Bool} : OpS c (dInD neg) (rInDA c.K neg) := by
  intro w S H d e x y Q' Q f r1 r2 h k
  obtain ⟨xs, e1, ⟨h1, h2⟩, q⟩ := opt_some h
  obtain ⟨p1, s1⟩ := dat_iff h1
  obtain ⟨p2, s2⟩ := dat_iff h2
  have hy := rd_dp f r2 p2
  have hs : rd S e = .lst xs ∨ rd S e = .tup xs := by
    cases e with
    | tup ys => simp [dsv] at e1; subst e1; exact .inr rfl
    | lst ys => simp [dsv] at e1; subst e1; exact .inl rfl
    | ref n =>
      simp only [dsv] at e1
      cases en : S[n]? with
      | none => rw [en] at e1; cases e1
      | some o =>
        rw [en] at e1
        cases o with
        | lst ys => simp at e1; subst e1; exact .inl (by simp [rd, en])
        | ins C fs => cases e1
        | dct kvs => cases e1
    | _ => simp [dsv] at e1
  refine ⟨pd (rd S d), pds xs, rd_dp f r1 p1, s1, ?_, ?_⟩
  · rcases hs with hs | hs
    · rw [hs] at hy s2
      exact .inl ⟨hy, s2⟩
    · rw [hs] at hy s2
      exact .inr ⟨hy, s2⟩
  · rw [any_pds]
    exact fin0 f k (.bl _) q
end A

set_option Elab.async false
set_option linter.all false
set_option maxRecDepth 100000
set_option maxHeartbeats 4000000
/-! defs with a star parameter; comprehensions over a zip of a tuple and a list of the row; constants that are data -/
namespace A
open PySem PySem.Spec PyProof.Rows L2
theorem cxUpN {P : Program} {w : World} : StX.CXUp (L2N.CX P w) := by
  rintro outer s H s2 H2 E e s' un kp ho ⟨a, B, H', cls, d, ea, fl, hok, ub, na, os, ag, he⟩
  refine ⟨a, B, H', cls, d, ea, fl, hok, ⟨fun b o q n hb => ub.keep b o (kp b o q) (un.free b o q n (by simp)) hb, fun b o q hb => ub.slot b o (kp b o q) hb, fun b o q n => ub.free b o (kp b o q) (un.free b o q n (by simp)),
    fun b o q hb => ub.there b o (kp b o q) hb, fun b xs q => ub.tups b xs (un.tups b xs q), fun b o xs q => ub.frzs b o xs (un.frzs b o xs q), fun b ps q => ?_⟩, na, os.trans ho, ag, he⟩
  obtain ⟨m1, e1⟩ := un.tbls b ps q
  obtain ⟨m2, e2⟩ := ub.tbls b _ e1
  exact ⟨m1 ++ m2, by rw [e2, Array.append_assoc]⟩
theorem bindStar1 {fd : FuncData} {a v : Arg} (h1 : fd.params.posonlyargs = []) (h2 : fd.params.args = [a]) (h3 : fd.params.vararg = some v) (h4 : fd.params.kwonlyargs = []) (h5 : fd.params.kwarg = none) (h6 : fd.defaults = .none) :
    ∀ (us rest : List Value), us.length = 1 → bindArgs fd ⟨us ++ rest, []⟩ = (newTuple rest >>= fun t => pure ([a.arg].zip us ++ [(v.arg, t)]))
  | [x], rest, _ => by
    unfold bindArgs
    simp only [h1, h2, h3, h4, h5, h6]
    simp [seqItems?]
    rfl
/-- what is left over is a tuple -/
def starSp (np : Nat) (sp : ASp) : ASp := fun ds S Q E => ∃ ws rest, ds = ws ++ rest ∧ ws.length = np ∧ rest.length ≤ big ∧ sp (ws ++ [.tup rest]) S Q E
theorem starSp_up {c : Cg} {sp : ASp} {np : Nat} {vs : List V} {H : Hp} {Q : VK} {E : XK} (h : upSp c (starSp np sp) vs H Q E) :
    ∃ us rest, vs = us ++ rest ∧ us.length = np ∧ rest.length ≤ sizeLine ∧ ∀ p, H p = Option.none → upSp c sp (us ++ [V.ref p]) (upd H p (.tup rest)) Q E := by
  obtain ⟨w, S, ds, Q', E', f, r, ⟨ws, rs, rfl, hl, hz, h⟩, hq, he⟩ := h
  have r1 := r.take ws.length
  have r2 := r.drop ws.length
  rw [List.take_left] at r1
  rw [List.drop_left] at r2
  refine ⟨vs.take ws.length, vs.drop ws.length, (List.take_append_drop _ _).symm, by rw [← r1.len]; exact hl, by rw [← r2.len]; exact big_le hz, fun p hp => ?_⟩
  have s := Stp.alloc (w := w) (N := S.length) hp (.tup (vs.drop ws.length))
  refine ⟨w, S, ws ++ [.tup rs], Q', E', f.alloc hp _, (r1.stp s).append (.cons (.tup (.inl (.inl upd_same)) (r2.stp s)) .nil), h, fun w' S' H' a b t => hq w' S' H' a b (s.trans t), fun w' S' H' x cl d t => he w' S' H' x cl d (s.trans t)⟩
section
variable {P : Program} {w : World} {K : PySem.W.Frag} {cA : Str → Addr} {mg : Str → Option Value} {base : Heap}
theorem def_star {x qual pv : Str} {st : Stmt} {f : Addr} {fd : FuncData} {N ps : List Str} {k : Nat} {sp : ASp} {t : AS} (F : FunG K x qual st f fd) (Sc : FnScope N (ps ++ [pv]) (defScope st))
    (hbn : ∀ (us rest : List Value), us.length = ps.length → bindArgs fd ⟨us ++ rest, []⟩ = (newTuple rest >>= fun t => pure (ps.zip us ++ [(pv, t)])))
    (hb : ∀ (cdv : Value) (A : Around) (outer : List Env) (s : Shared) (H : Hp) (E : XK), Room k (A.deeper (envOfC qual (defScope st) s.heap.objs.size f cdv)) →
      JSs (cxOf (L2N.CX P w) P w K mg base N qual (defScope st) f cdv A outer s H E) ⟨⟨K, cA⟩, none, fun cls d _ H => E cls d H⟩ (defBody st) t)
    (hv : ∀ ds S Q E, sp ds S Q E → t (defEnds Q E) (startD N ds) S) : FnR P w K mg base (L2N.CX P w) (k + 1) f (upSp ⟨K, cA⟩ (starSp ps.length sp)) := by
  obtain ⟨oc, od, dV, kV, doc, pm, an, cdv, ct, osl, rfl, lk, hcd⟩ := F.ex
  refine (StX.fn_star (sp := upSp ⟨K, cA⟩ sp) lk hcd Sc cxUpN hbn (fun A outer s H vs Q E hr h => ?_)).imp fun vs H Q E h => starSp_up h
  obtain ⟨w, S, ds, Q', E', f, r, ht, hq, he⟩ := h
  exact ⟨_, hb cdv A outer s H E hr, w, _, S, defEnds Q' E', ⟨f, relE_start r, trivial⟩, hv ds S Q' E' ht,
    ⟨fun w' ρ' S' σ' H' s' st' q => hq w' S' H' .non .non s' st'.wf .non q, hq, fun _ _ _ _ _ _ _ z => z, fun _ _ _ _ _ _ _ z => z, fun w' ρ' S' σ' H' x cls d s' st' rx q => he w' S' H' x cls d s' st'.wf rx q⟩⟩
end
/-! ### comprehensions while something holds of the row -/
def lcI (Iv : Sto → Prop) (g : AG) (tt : AM Bool) (te : AM D) (ρ : Ev) (Q : List D → Sto → Prop) : List D → List D → Sto → Prop
  | [], acc, S => Iv S ∧ Q acc S
  | x :: r, acc, S => Iv S ∧ g x ρ fun ρ2 => tt ρ2 S (fun b S3 => if b = true then te ρ2 S3 (fun y S4 => acc.length < big ∧ lcI Iv g tt te ρ Q r (acc ++ [y]) S4) (fun _ _ => False) else lcI Iv g tt te ρ Q r acc S3) fun _ _ => False
theorem lcI.iv {Iv : Sto → Prop} {g : AG} {tt : AM Bool} {te : AM D} {ρ : Ev} {Q : List D → Sto → Prop} : ∀ {r acc : List D} {S : Sto}, lcI Iv g tt te ρ Q r acc S → Iv S
  | [], _, _, h => h.1
  | _ :: _, _, _, h => h.1
def WalkI (c : Cg) (w : Wd) (N : Nat) (H : Hp) (Iv : Sto → Prop) (J : It) (xs : List D) : Prop := ∃ (G : Hp → Prop) (Y : Nat → Hp → V → Hp → Prop), Walk J xs.length G Y ∧
  (∀ w2 (S2 : Sto) H2, Stp w N H w2 S2.length H2 → Wf c w2 S2 H2 → Iv S2 → G H2) ∧
  ∀ w2 (S2 : Sto) H2 i x H3, Stp w N H w2 S2.length H2 → Wf c w2 S2 H2 → Iv S2 → i < xs.length → Y i H2 x H3 → Same H2 H3 ∧ ∃ d, xs[i]? = some d ∧ Rel c w2 S2.length H3 d x
theorem lc_runI {n : Cn} {J : It} {Iv : Sto → Prop} {xs : List D} {g : TG} {gD : AG} {tt : AM Bool} {te : AM D} {vs : List Nat} {w : Wd} {ρ : Ev} {S : Sto} {σ : L2.St} {H1 : Hp} {Qd : List D → Sto → Prop} {Q : VK} (gl : GL n.c g gD vs) (st : Sta n.c n.g w ρ S σ H1)
    (wk : WalkI n.c w S.length H1 Iv J xs) (h : lcI Iv gD tt te (wipeD ρ vs) Qd xs [] S)
    (hd : ∀ D w2 S2 H2 ys us, H1 D = none → Stp w S.length H1 w2 S2.length H2 → Wf n.c w2 S2 H2 → w2.R D → (∀ m, m < S2.length → w2.i m ≠ D) → H2 D = some (.lst us) → RelL n.c w2 S2.length H2 ys us → Qd ys S2 → Q (.ref D) H2) :
    LcB J g (upT n.no tt) (upE n.no te) vs σ Q H1 := by
  obtain ⟨G, Y, wlk, hG, hY⟩ := wk
  refine lcB wlk (fun D i H => ∃ w2 S2 ys us, Stp w S.length H1 w2 S2.length H ∧ Wf n.c w2 S2 H ∧ w2.R D ∧ (∀ m, m < S2.length → w2.i m ≠ D) ∧ H D = some (.lst us) ∧ RelL n.c w2 S2.length H ys us ∧ lcI Iv gD tt te (wipeD ρ vs) Qd (xs.drop i) ys S2) ?_ ?_ ?_ ?_
  · intro D hD
    refine ⟨w.hold D, S, [], [], Stp.hold hD _, st.wf.hold hD _, .inr rfl, fun m hm z => ?_, upd_same, .nil, h⟩
    obtain ⟨ho, e, _⟩ := RelO.isAt (st.wf.obj m S[m] (by simp))
    have z : w.i m = D := z
    rw [z, hD] at e; cases e
  · rintro D i H hi ⟨w2, S2, ys, us, s2, f2, _, _, _, _, hx⟩
    exact hG w2 _ H s2 f2 hx.iv
  · rintro D i x H H' hD hi ⟨w2, S2, ys, us, s2, f2, hR, hn, hu, hl, hx⟩ y
    obtain ⟨sm, d, hd', rd⟩ := hY w2 _ H i x H' s2 f2 hx.iv hi y
    have sH : Stp w2 S2.length H w2 S2.length H' := Stp.same sm
    have f3 := f2.same sm
    have hdr : xs.drop i = d :: xs.drop (i + 1) := by
      rw [List.drop_eq_getElem?_toList_append, hd']; rfl
    rw [hdr] at hx
    have hx := hx.2
    have st3 : Sta n.c n.g w2 (wipeD ρ vs) S2 (wipe σ vs) H' := ⟨f3, (st.ev.stp (s2.trans sH)).wipe vs, st.gx.stp (s2.trans sH)⟩
    refine gl n.g w2 (wipeD ρ vs) S2 (wipe σ vs) H' d x _ _ st3 rd hx fun ρ2 σ2 st4 hw hx => ⟨?_, ?_⟩
    · rw [hw]
      exact wipe_twice σ vs
    · refine ⟨w2, ρ2, S2, st4, _, _, hx, ?_, fun _ _ _ _ _ _ _ _ _ z => z.elim⟩
      rintro w5 S5 H5 b b' s5 f5 rfl hx
      have hD5 : H5 D = some (.lst us) := s5.rsv D _ (sm _ _ hu) hR hn
      have n5 : ∀ m, m < S5.length → w5.i m ≠ D := fun m hm z => by
        by_cases k : m < S2.length
        · rw [s5.ids m k] at z; exact hn m k z
        · have q := s5.new m (by omega) hm
          rw [z, sm _ _ hu] at q; cases q
      cases b with
      | false =>
        rw [if_neg Bool.false_ne_true] at hx ⊢
        exact ⟨w5, S5, ys, us, (s2.trans sH).trans s5, f5, s5.up _ hR, n5, hD5, (hl.stp sH).stp s5, hx⟩
      | true =>
        rw [if_pos rfl] at hx ⊢
        refine ⟨w5, ρ2, S5, st4.step s5 f5, _, _, hx, ?_, fun _ _ _ _ _ _ _ _ _ z => z.elim⟩
        rintro w6 S6 H6 yd yv s6 f6 ry ⟨hb, hx⟩
        have hD6 : H6 D = some (.lst us) := s6.rsv D _ hD5 (s5.up _ hR) n5
        have n6 : ∀ m, m < S6.length → w6.i m ≠ D := fun m hm z => by
          by_cases k : m < S5.length
          · rw [s6.ids m k] at z; exact n5 m k z
          · have q := s6.new m (by omega) hm
            rw [z, hD5] at q; cases q
        have hR6 := s6.up _ (s5.up _ hR)
        have m0 : Stp0 w6 S6.length H6 w6 S6.length (upd H6 D (.lst (us ++ [yv]))) := Stp0.mine hR6 hD6
        refine ⟨us, hD6, ?_, w6, S6, ys ++ [yd], us ++ [yv], Stp.mut (((s2.trans sH).trans s5).trans s6) hD, f6.mine hR6 hD6 n6, hR6, n6, upd_same, ?_, hx⟩
        · rw [← hl.len]; exact big_lt hb
        · exact ((((hl.stp sH).stp s5).stp s6).append (.cons ry .nil)).stp0 m0
  · rintro D H hD ⟨w2, S2, ys, us, s2, f2, hR, hn, hu, hl, hx⟩
    rw [show xs.drop xs.length = [] by simp] at hx
    exact hd D w2 S2 H ys us hD s2 f2 hR hn hu hl hx.2
/-- over zip of a tuple and a list of the row -/
def aLcZ (t : AM (List D)) (g : AG) (tt : AM Bool) (te : AM D) (vs : List Nat) : AM D := aBind t fun ds => fun ρ S Q _ => opt (two2 ds) fun p => opt (asT p.1) fun xs => opt (refOf p.2) fun m => opt (lstAt S m) fun ys => xs.length = ys.length ∧ lcI (fun S => lstAt S m = some ys) g tt te (wipeD ρ vs) (fun zs S' => Q (.lst zs) S') (zipD xs ys) [] S
theorem walk_zipI {c : Cg} {w : Wd} {S : Sto} {H : Hp} {a : Addr} {xs ys : List D} {us : List V} {m : Nat} (ha : SqT c.K H a us) (la : RelL c w S.length H xs us) (hm : m < S.length) (hl : xs.length = ys.length) :
    WalkI c w S.length H (fun S => lstAt S m = some ys) (ItzM c.K a (w.i m)) (zipD xs ys) := by
  have hz : (zipD xs ys).length = us.length := by simp [zipD, ← la.len, hl]
  refine ⟨fun H2 => SqT c.K H2 a us ∧ ∃ ws : List V, ws.length = us.length ∧ SqL c.K H2 (w.i m) ws, (ItzM c.K a (w.i m)).yld, ⟨?_, ?_, fun _ _ _ _ _ _ y => y⟩, ?_, ?_⟩
  · rintro i H2 hi ⟨hu, ws, hw, hb⟩
    rw [hz] at hi
    exact ⟨us, ws, us[i], ws[i], ⟨hu, by simp⟩, hb, by simp⟩
  · rintro H2 ⟨hu, ws, hw, hb⟩
    exact ⟨us, ws, hu, hb, .inl ⟨hz.symm, by omega⟩⟩
  · rintro w2 S2 H2 s f2 iv
    obtain ⟨_, _, ws, hw, rl⟩ := lstAt_rel f2 iv
    rw [s.ids m hm] at hw
    exact ⟨SqT.stp0 s.to0 ha, ws, by rw [← rl.len, ← la.len, hl], SqL.of hw⟩
  · rintro w2 S2 H2 i x H3 s f2 iv hi ⟨T, x1, y1, ⟨rfl, hT⟩, rfl, h1, h2⟩
    obtain ⟨_, _, ws, hw, rl⟩ := lstAt_rel f2 iv
    rw [s.ids m hm] at hw
    have h1 := h1 us (SqT.stp0 s.to0 ha)
    have h2 := h2 ws (SqL.of hw)
    obtain ⟨d1, e1, r1⟩ := (la.stp s).getV h1
    obtain ⟨d2, e2, r2⟩ := rl.getV h2
    refine ⟨same_new hT _, .tup [d1, d2], ?_, pair_new hT r1 r2⟩
    have k1 : i < min xs.length ys.length := by
      have := (List.getElem?_eq_some_iff.mp e1).1
      have := (List.getElem?_eq_some_iff.mp e2).1
      omega
    simp [zipD, k1, List.getD, e1, e2]
section
variable {X : Cx} {n : Cn} {elt e1 e2 : Expr} {elts ifs : List Expr} {scope : Scope} {own : List (Str × Nat)} {pos p tp p2 : Pos} {kk : Nat} {ta : AM (List D)} {g : TG} {gD : AG} {tt : AM Bool} {te : AM D}
theorem j_lcZ (hc : X.calm = true) (hN : X.N.Nodup) (gl : GL n.c g gD (own.map (·.2))) (hg0 : Gl X "zip") (hm : X.mg "zip" = none) (ha : JA X n [e1, e2] ta) (ok : BlkOk X.N X.env.scope scope own)
    (hg : ∀ (s : Shared) (H : Hp) (C : Addr) (cl : List (Str × Addr)) (fp : List Addr), PG (X.blk s H scope (compEnvC scope cl C X.env) fp) (.Tuple elts kk tp) g) (ht : ∀ (s : Shared) (H : Hp) (C : Addr) (cl : List (Str × Addr)) (fp : List Addr), PTs (X.blk s H scope (compEnvC scope cl C X.env) fp) ifs (upT n.no tt))
    (he : ∀ (s : Shared) (H : Hp) (C : Addr) (cl : List (Str × Addr)) (fp : List Addr), JE (X.blk s H scope (compEnvC scope cl C X.env) fp) n.no elt te) (hs : ∀ x, foldedSetIterable (.Call (.Name "zip" p) [e1, e2] [] p2) X.env x = pure x := by intro _; rfl) (hK : X.K = n.c.K := by rfl)
    (hs1 : starEach [e1, e2] X.env = (false, eval e1 X.env) :: starEach [e2] X.env := by rfl) (hpl : (backTo p2 (starEach [e2] X.env)).any (·.1) = false := by rfl) :
    JE X n (.ListComp elt [⟨.Tuple elts kk tp, .Call (.Name "zip" p) [e1, e2] [] p2, ifs, 0⟩] scope pos) (aLcZ ta gD tt te (own.map (·.2))) := PE.imp (pe_lc hc hN (pi_zipM n.c.K hg0 hm ha hK hs1 hpl) ok hg ht he hs) fun σ H Q h => by
  obtain ⟨w, ρ, S, st, h⟩ := h
  rw [tLc_eq]
  refine (upW.bind (r := RelL n.c) st h).mono ?_
  rintro vs H1 ⟨w1, S1, ds, st1, s1, r1, Q', E', hf, hq, _⟩
  obtain ⟨pr, ep, hf⟩ := opt_some hf
  obtain ⟨xs, ex, hf⟩ := opt_some hf
  obtain ⟨m, em, hf⟩ := opt_some hf
  obtain ⟨ys, ey, hl, hx⟩ := opt_some hf
  obtain ⟨x, y, rfl, rx, ry⟩ := two_rel ep r1
  obtain ⟨a, us, rfl, hu, la⟩ := asT_rel ex rx
  obtain ⟨_, hm1, rfl⟩ := refOf_rel em ry
  obtain ⟨_, _, ws, hw, rl⟩ := lstAt_rel st1.wf ey
  refine ⟨a, w1.i m, us, ws, rfl, hu, SqL.of hw, ?_⟩
  refine lc_runI gl st1 (walk_zipI hu la hm1 hl) hx fun D w2 S2 H2 ys us hD s2 f2 hR hn hu hl q => ?_
  obtain ⟨w3, s3, f3, r3⟩ := lc_stay st1.wf hD s2 f2 hR hn hu hl
  exact hq w3 S2 H2 _ _ s3 f3 r3 q
end
theorem lcI_by {Iv : Sto → Prop} {g : AG} {tt : AM Bool} {te : AM D} {ρ : Ev} {Q : List D → Sto → Prop} (Pv : List D → List D → Sto → Prop) (hi : ∀ r acc S, Pv r acc S → Iv S) (hn : ∀ acc S, Pv [] acc S → Q acc S)
    (hc : ∀ x r acc S, Pv (x :: r) acc S → ∀ F : List D → Sto → Prop, (∀ acc' S', Pv r acc' S' → F acc' S') → g x ρ fun ρ2 => tt ρ2 S (fun b S3 => if b = true then te ρ2 S3 (fun y S4 => acc.length < big ∧ F (acc ++ [y]) S4) (fun _ _ => False) else F acc S3) fun _ _ => False) :
    ∀ {xs acc : List D} {S : Sto}, Pv xs acc S → lcI Iv g tt te ρ Q xs acc S
  | [], acc, S, h => ⟨hi _ _ _ h, hn acc S h⟩
  | x :: r, acc, S, h => ⟨hi _ _ _ h, hc x r acc S h (fun acc' S' => lcI Iv g tt te ρ Q r acc' S') fun acc' S' h' => lcI_by Pv hi hn hc h'⟩
/-- items told by a function, all left as it is -/
theorem lcI_map {Iv : Sto → Prop} {g : AG} {tt : AM Bool} {te : AM D} {ρ : Ev} {Q : List D → Sto → Prop} {S : Sto} (p : D → Bool) (f : D → D) (hm : Iv S) {xs : List D} (hl : xs.length ≤ 1000000)
    (h : ∀ x ∈ xs, ∀ (Y : D → Sto → Prop) (F : Sto → Prop), (p x = true → Y (f x) S) → (p x = false → F S) → g x ρ fun ρ2 => tt ρ2 S (fun b S3 => if b = true then te ρ2 S3 Y (fun _ _ => False) else F S3) fun _ _ => False)
    (q : Q ((xs.filter p).map f) S) : lcI Iv g tt te ρ Q xs [] S := by
  refine lcI_by (fun r acc S' => S' = S ∧ (∀ x ∈ r, x ∈ xs) ∧ acc.length + r.length ≤ xs.length ∧ Q (acc ++ (r.filter p).map f) S) (fun _ _ _ h => by rw [h.1]; exact hm) ?_ ?_ ⟨rfl, fun _ h => h, by simp, by simpa using q⟩
  · rintro acc S' ⟨rfl, _, _, q⟩
    simpa using q
  · rintro x r acc S' ⟨rfl, hm, hle, q⟩ F hF
    refine h x (hm x (by simp)) _ _ (fun hp => ⟨?_, hF _ _ ⟨rfl, fun y hy => hm y (by simp [hy]), ?_, ?_⟩⟩) (fun hp => hF _ _ ⟨rfl, fun y hy => hm y (by simp [hy]), ?_, ?_⟩)
    · have : acc.length < 1000001 := by simp at hle; omega
      exact Nat.lt_of_lt_of_le this (by decide)
    · simp at hle ⊢; omega
    · simpa [List.filter_cons, hp] using q
    · simp at hle; omega
    · simpa [List.filter_cons, hp] using q
theorem v_l0 : (0 < big) = True := eq_true (by decide)
theorem v_l1 : (1 < big) = True := eq_true (by decide)
theorem cm2 (a b : D) : cutD [a, b] none (some (-1)) = [a] := rfl
theorem cm3 (a b c : D) : cutD [a, b, c] none (some (-1)) = [a, b] := rfl
theorem cm5 (a b c d e : D) : cutD [a, b, c, d, e] none (some (-1)) = [a, b, c, d] := rfl
theorem cm6 (a b c d e f : D) : cutD [a, b, c, d, e, f] none (some (-1)) = [a, b, c, d, e] := rfl
/-! ### constants of the module that are data -/
/-- the object at a is the data d, whatever the heap -/
def KDat (K : PySem.W.Frag) (a : Addr) (d : D) : Prop := ∀ (c : Cg) (w : Wd) (N : Nat) (H : Hp), c.K = K → Rel c w N H d (.ref a)
section
variable {X : Cx} {n : Cn} {x : Str} {pos : Pos} {a : Addr}
theorem j_gdat {d : D} (hg : Gl X x) (hm : X.mg x = some (.ref a)) (hk : KDat n.c.K a d) (hd : (x == ("__debug__" : Str)) = false := by decide) : JE X n (.Name x pos) (aC d) :=
  je_of_c (pe_glob (v := .ref a) hg hm rfl hd) fun w N H => hk n.c w N H rfl
end
theorem kdat_tup {K : PySem.W.Frag} {a : Addr} {o : Obj} {its : Array Value} {n : Nat} {ds : List D} {vs : List V} (lk : K.lookup a = some o) (hc : o.cls = .type "tuple") (hd : o.data = .seq its n) (hz : its.size ≤ sizeLine) (hv : Vals vs its.toList) (hr : ∀ (c : Cg) (w : Wd) (N : Nat) (H : Hp), c.K = K → RelL c w N H ds vs) : KDat K a (.tup ds) :=
  fun c w N H e => .tup (.inr (by rw [e]; exact ⟨o, its, n, lk, hc, hd, hz, hv⟩)) (hr c w N H e)
end A

set_option Elab.async false
set_option linter.all false
set_option maxRecDepth 100000
set_option maxHeartbeats 4000000
/-! what a def lays for itself is left behind, though it changes what stood -/
namespace A
open PySem PySem.Spec PyProof.Rows L2
/-- the same promise: what stood at the call stands as it did, or is data now; what is given back is frozen -/
def cutSp2 (sp : ASp) : ASp := fun ds S Q E => sp ds S (fun d S' => ∃ S1 T r, S' = S1 ++ T ∧ S1.length = S.length ∧ (∀ (i : Nat) (o : O), S1[i]? = some o → S[i]? = some o ∨ clO S.length o = true) ∧ frz S' S.length d = some r ∧ Q r S1)
  (fun x S' => ∃ S1 T, S' = S1 ++ T ∧ S1.length = S.length ∧ (∀ (i : Nat) (o : O), S1[i]? = some o → S[i]? = some o ∨ clO S.length o = true) ∧ cls S.length x.vs = true ∧ E x S1)
theorem cutSp2_up {c : Cg} {sp : ASp} (vs : List V) (H : Hp) (Q : VK) (E : XK) (h : upSp c (cutSp2 sp) vs H Q E) : upSp c sp vs H Q E := by
  obtain ⟨w, S, ds, Q', E', f, r, ht, hq, he⟩ := h
  have k0 := wf_cl f
  have kk : ∀ {S1 : Sto}, (∀ (i : Nat) (o : O), S1[i]? = some o → S[i]? = some o ∨ clO S.length o = true) → ∀ o ∈ S1, clO S.length o = true := fun {S1} h o ho => by
    obtain ⟨i, e⟩ := List.getElem?_of_mem ho
    rcases h i o e with e | e
    · exact k0 o (List.mem_of_getElem? e)
    · exact e
  refine ⟨w, S, ds, _, _, f, r, ht, ?_, ?_⟩
  · rintro w' S' H' d v s f' rd ⟨S1, T, y, rfl, hl, k, hz, q⟩
    have fc := f.cut s f' hl (kk k)
    refine hq w S1 H' y v (by rw [hl]; exact s.cut) fc ?_ q
    rw [hl]
    exact frz_rel f s f' hz rd
  · rintro w' S' H' x cl d s f' rx ⟨S1, T, rfl, hl, k, kx, q⟩
    have fc := f.cut s f' hl (kk k)
    refine he w S1 H' x cl d (by rw [hl]; exact s.cut) fc ?_ q
    rw [hl]
    exact rx.cut s.up s.ids kx
theorem _root_.L2.Fnc.cut2 {P : Program} {w : World} {K : PySem.W.Frag} {mg : Str → Option Value} {base : Heap} {k : Nat} {x : Str} {c : Cg} {sp sp' : ASp} (F : Fnc P w K mg base k x (upSp c sp)) (h : ∀ ds S Q E, sp' ds S Q E → cutSp2 sp ds S Q E) : Fnc P w K mg base k x (upSp c sp') :=
  F.imp fun vs H Q E z => cutSp2_up vs H Q E (by
    obtain ⟨w', S, ds, Q', E', f, r, ht, hq, he⟩ := z
    exact ⟨w', S, ds, Q', E', f, r, h ds S Q' E' ht, hq, he⟩)
end A

set_option Elab.async false
set_option linter.all false
set_option maxRecDepth 100000
set_option maxHeartbeats 4000000
/-! calls of defs with a starred argument -/
namespace L2
open PySem PySem.Spec PyProof.Rows
section
variable {X : Cx} {k n : Nat} {C : Addr} {sp : Sp} {E : St → XK} {x m : Str} {p pos apos : Pos} {e o : Expr} {es : List Expr} {ta : TE} {t : TA}
theorem pe_fcS (c : Fnc X.prog X.w X.K X.mg X.base k x sp) (hr : Room n X.A) (hk : k ≤ n) (hg : Gl X x) (hx : ∀ σ, PassesAt (L2N.CX X.prog X.w) X σ (E σ)) (ha : PA X (e :: es) t)
    (hdb : (x == ("__debug__" : Str)) = false := by decide) (he : starEach (e :: es) X.env = (false, eval e X.env) :: starEach es X.env := by rfl) (hst : (backTo pos (starEach es X.env)).any (·.1) = true := by rfl) :
    PE X (.Call (.Name x p) (e :: es) [] pos) (tCallS sp E t) := by
  obtain ⟨f, hm, kp, F⟩ := c.ex
  refine ⟨fun pins s σ H Q I h => wpAny_Call_Name_kw (ld_glob I hg hm ?_ hdb)⟩
  exact PySem.W.callWith_S2 (h₀ := X.base) I.ok.mod.kin kp (thn (ha.run pos pins s σ H _ I h) fun us s1 ⟨vs, H1, I1, r, q⟩ => ⟨I1.kIn, run_raw F (hr.mono hk) I1.env0 (hx σ) I1 r q⟩) he hst
end
end L2
namespace A
open PySem PySem.Spec PyProof.Rows L2
section
variable {X : Cx} {n : Cn} {k r : Nat} {sp : ASp} {x : Str} {p pos : Pos} {e : Expr} {es : List Expr} {t : AM (List D)}
theorem j_fcS (c : Fnc X.prog X.w X.K X.mg X.base k x (upSp n.c sp)) (hr : Room r X.A) (hk : k ≤ r) (hg : Gl X x) (hx : ∀ σ, PassesAt (L2N.CX X.prog X.w) X σ (WE n.W σ)) (ha : JA X n (e :: es) t)
    (hdb : (x == ("__debug__" : Str)) = false := by decide) (he : starEach (e :: es) X.env = (false, eval e X.env) :: starEach es X.env := by rfl) (hst : (backTo pos (starEach es X.env)).any (·.1) = true := by rfl) :
    JE X n (.Call (.Name x p) (e :: es) [] pos) (aCall sp t) := PE.imp (pe_fcS c hr hk hg hx ha hdb he hst) fun _ _ _ h => up_call h
end
end A

set_option Elab.async false
set_option linter.all false
set_option maxRecDepth 100000
set_option maxHeartbeats 4000000
/-! k in d (a dict of the row), sorted of ints, len(set(ints)) -/
namespace A
open PySem PySem.Spec PyProof.Rows L2
def rInDct : R2 := fun x y H Q => ∃ a o, y = .ref a ∧ DGet H a x o ∧ Q (.bl o.isSome) H
theorem op_inDct {X : Cx} (hu : X.A.units + 1 < cLine) : OpR X (compareOp .In) rInDct := by
  intro pins s σ H x y v u Q I rx ry h
  obtain ⟨a, o, rfl, g, q⟩ := h
  obtain rfl : u = Value.ref a := ry
  exact d_in hu I g rx fun s3 I3 => ⟨.bl o.isSome, H, I3, rfl, q⟩
theorem valV_some {c : Cg} {w : Wd} {N : Nat} {H : Hp} {k : Str} : ∀ {fs : List (Str × D)} {kvs : List (Key × V)}, kvs.map (·.1) = fs.map (fun p => Sum.inr p.1) → RelL c w N H (fs.map (·.2)) (kvs.map (·.2)) → (valV kvs (Sum.inr k)).isSome = (fs.lookup k).isSome
  | [], [], _, _ => rfl
  | [], _ :: _, h, _ => by simp at h
  | _ :: _, [], h, _ => by simp at h
  | (a, x) :: fs, (b, y) :: kvs, h, r => by
    simp only [List.map_cons, List.cons.injEq] at h
    obtain ⟨rfl, h⟩ := h
    simp only [List.map_cons] at r
    cases r with
    | cons r rs =>
      have ih := valV_some (k := k) h rs
      simp only [List.lookup_cons]
      unfold valV at ih ⊢
      by_cases z : a = k
      · subst z
        simp
      · have z2 : (k == a) = false := by simp [Ne.symm z]
        rw [z2]
        simp only [List.find?_cons]
        have z3 : decide ((Sum.inr a : Key) = Sum.inr k) = false := by simp [z]
        rw [z3]
        exact ih
def dInDct : F2 := fun d e S Q => opt (refOf e) fun m => opt (dctAt S m) fun kvs => opt (asS d) fun k => Q (.bl (kvs.lookup k).isSome) S
theorem os_inDct {c : Cg} : OpS c dInDct rInDct := by
  intro w S H d e x y Q' Q f r1 r2 h k
  obtain ⟨m, e1, h⟩ := opt_some h
  obtain ⟨kvs, e2, h⟩ := opt_some h
  obtain ⟨z, e3, q⟩ := opt_some h
  obtain ⟨rfl, hm, rfl⟩ := refOf_rel e1 r2
  obtain ⟨_, rfl⟩ := asS_rel e3 r1
  obtain ⟨_, _, kvs', hu', hn, hl⟩ := dctAt_rel f e2
  have := DGet.k (k := Sum.inr z) hu'
  refine ⟨_, _, rfl, this, ?_⟩
  rw [valV_some hn hl]
  exact fin0 f k (.bl _) q
def fSorted : FN := fun ds S Q => opt (one1 ds) fun d => opt (intsOf S d) fun ns => ∀ ns' : List Int, ns'.Perm ns → ns'.Pairwise (· ≤ ·) → Q (.lst (ns'.map D.int)) S
theorem cs_sorted {c : Cg} : CallS c fSorted (rSortedI c.K) := by
  intro w S H ds xs Q' Q f r h k
  obtain ⟨d, e1, h⟩ := opt_some h
  obtain ⟨ns, e2, q⟩ := opt_some h
  obtain ⟨x, rfl, r1⟩ := one_rel e1 r
  obtain ⟨a, rfl, ha⟩ := intsOf_rel f e2 r1
  exact ⟨a, ns, rfl, ha, fun ns' p hp hs hn => finL f k relL_ints hn (fun c u w => by rw [upd_ne (ne_of_none w hn)]; exact w) upd_same (q ns' hp hs)⟩
theorem kcr_sorted {X : Cx} {K : PySem.W.Frag} (hK : X.K = K) : CallR X (.builtin "sorted") (rSortedI K) := hK ▸ cr_sortedI
def aLenSet (ta : AM D) : AM D := aBind ta fun d => fun _ S Q _ => opt (intsOf S d) fun ns => ns.Nodup ∧ ns.length ≤ 4000 ∧ Q (.int (ns.length : Nat)) S
theorem j_lenSet {X : Cx} {n : Cn} {a : Expr} {ta : AM D} {p p2 q pos : Pos} (hK : X.K = n.c.K) (hg : Gl X "len") (hm : X.mg "len" = none) (hg2 : Gl X "set") (hm2 : X.mg "set" = none) (ha : JE X n a ta) (hc : X.calm = true := by rfl)
    (na : starEach [a] X.env = (false, eval a X.env) :: starEach [] X.env := by rfl) : JE X n (.Call (.Name "len" p) [.Call (.Name "set" p2) [a] [] q] [] pos) (aLenSet ta) := PE.imp (RZ.pe_lenSetI hg hm hg2 hm2 ha hc na) fun σ H Q ⟨w, ρ, S, st, h⟩ => by
  refine (upW.bind st h).mono ?_
  rintro x H1 ⟨w1, S1, d, st1, _, r1, h1⟩
  refine h1.op fun Q' hf hq => ?_
  obtain ⟨ns, e1, hn, hl, q⟩ := opt_some hf
  obtain ⟨a, rfl, hs⟩ := intsOf_rel st1.wf e1 r1
  rw [hK]
  exact ⟨a, ns, rfl, hs, hn, hl, fin0 st1.wf hq (.int _) q⟩
end A

set_option Elab.async false
set_option linter.all false
set_option maxRecDepth 100000
set_option maxHeartbeats 4000000
/-! range with a step; classes whose instances are left frozen; isinstance of a caught error -/
namespace A
open PySem PySem.Spec PyProof.Rows L2
/-! ### range(a, b, c), c above 0 -/
def rngC (lo c : Int) (n : Nat) : List D := (List.range n).map fun (i : Nat) => D.int (lo + (i : Nat) * c)
/-- how many numbers range(i, j, c) has -/
def rngN (i j c : Int) : Nat := if i < j then ((j - i - 1) / c + 1).toNat else 0
theorem walk_rngC {c : Cg} {w : Wd} {N : Nat} {H : Hp} {lo st : Int} {m : Nat} : WalkD c w N H (Itc lo st m) (rngC lo st m) := by
  have len : (rngC lo st m).length = m := by simp [rngC]
  refine ⟨fun _ => True, YFn (fun i => .int (lo + (i : Nat) * st)), by rw [len]; exact walk_rangeC, fun _ _ _ _ => trivial, ?_⟩
  rintro w2 N2 H2 i x H3 _ hi ⟨rfl, rfl⟩
  rw [len] at hi
  exact ⟨Same.refl _, .int (lo + (i : Nat) * st), by simp [rngC, hi], .int _⟩
theorem rgC_pos {i j c : Int} (h0 : 0 < c) (h1 : c < 1000000) (i0 : 0 ≤ i) (i1 : i < 1000000) (j0 : 0 ≤ j) (j1 : j < 1000000) : RgC i j c (rngN i j c) := by
  have e : Builtin.Range.rangeSize i j c = (rngN i j c : Int) := by
    unfold Builtin.Range.rangeSize rngN
    rw [if_pos h0]
    split
    · have : 0 ≤ (j - i - 1) / c := Int.ediv_nonneg (by omega) (by omega)
      omega
    · rfl
  have le : (rngN i j c : Int) ≤ 1000000 := by
    unfold rngN
    split
    · have a : 0 ≤ (j - i - 1) / c := Int.ediv_nonneg (by omega) (by omega)
      have b : (j - i - 1) / c ≤ j - i - 1 := Int.ediv_le_self _ (by omega)
      omega
    · simp
  refine ⟨by omega, by omega, ?_, e⟩
  unfold Builtin.Range.small
  rw [e]
  have mm : 0 ≤ (rngN i j c : Int) * c ∧ (rngN i j c : Int) * c ≤ 1000000 * 1000000 := by
    constructor
    · exact Int.mul_nonneg (by omega) (by omega)
    · exact Int.mul_le_mul le (by omega) (by omega) (by decide)
  simp only [Builtin.Range.rangeFitsLong, Bool.and_eq_true, Bool.or_eq_true, decide_eq_true_eq, beq_iff_eq, show (c > 0) = True from eq_true h0, if_true]
  omega
def aRng3 (t : AM (List D)) : AM (List D) := aBind t fun ds => fun _ S Q _ => opt (three3 ds) fun d => opt (asI d.1) fun i => opt (asI d.2.1) fun j => opt (asI d.2.2) fun c =>
  (0 < c ∧ c < 1000000 ∧ 0 ≤ i ∧ i < 1000000 ∧ 0 ≤ j ∧ j < 1000000) ∧ Q (rngC i c (rngN i j c)) S
section
variable {X : Cx} {n : Cn} {k r : Nat} {tg : Expr} {t tk : AM (List D)} {p pos : Pos} {e : Expr} {es : List Expr} {x : Str} {C : Str} {sp : ASp}
theorem three_rel {c : Cg} {w : Wd} {N : Nat} {H : Hp} {ds : List D} {xs : List V} {d : D × D × D} (h : three3 ds = some d) (r : RelL c w N H ds xs) : ∃ x y z, xs = [x, y, z] ∧ Rel c w N H d.1 x ∧ Rel c w N H d.2.1 y ∧ Rel c w N H d.2.2 z := by
  match ds, h, r with
  | [d1, d2, d3], h, .cons r (.cons r' (.cons r'' .nil)) =>
    simp [three3] at h
    subst h
    exact ⟨_, _, _, rfl, r, r', r''⟩
theorem ji_range3 {a b c : Expr} (hg : Gl X "range") (hm : X.mg "range" = none) (ha : JA X n [a, b, c] t)
    (hs : starEach [a, b, c] X.env = (false, eval a X.env) :: starEach [b, c] X.env := by rfl) (hpl : (backTo pos (starEach [b, c] X.env)).any (·.1) = false := by rfl) :
    JI X n tg (.Call (.Name "range" p) [a, b, c] [] pos) (aRng3 t) := PI.imp (pi_range3 hg hm ha hs hpl) fun σ H R h => by
  refine (upI.bind h).mono ?_
  rintro v H1 ⟨w1, ρ, S1, ds, f1, r1, Q', E', hf, k⟩
  obtain ⟨d, e1, hf⟩ := opt_some hf
  obtain ⟨i, e2, hf⟩ := opt_some hf
  obtain ⟨j, e3, hf⟩ := opt_some hf
  obtain ⟨c, e4, ⟨z0, z1, z2, z3, z4, z5⟩, q⟩ := opt_some hf
  obtain ⟨x, y, z, rfl, rx, ry, rz⟩ := three_rel e1 r1
  obtain ⟨_, rfl⟩ := asI_rel e2 rx
  obtain ⟨_, rfl⟩ := asI_rel e3 ry
  obtain ⟨_, rfl⟩ := asI_rel e4 rz
  exact ⟨i, j, c, _, rfl, rgC_pos z0 z1 z2 z3 z4 z5, k _ q _ walk_rngC⟩
/-! ### C(..), the instance left frozen -/
/-- what stood stands as it did, or is closed; the value is frozen -/
def frzQ (S : Sto) (Q : QD) : QD := fun d S' => ∃ S1 T r, S' = S1 ++ T ∧ S1.length = S.length ∧ (∀ (i : Nat) (o : O), S1[i]? = some o → S[i]? = some o ∨ clO S.length o = true) ∧ frz S' S.length d = some r ∧ Q r S1
def frzE (S : Sto) (E : XQ) : XQ := fun x S' => ∃ S1 T, S' = S1 ++ T ∧ S1.length = S.length ∧ (∀ (i : Nat) (o : O), S1[i]? = some o → S[i]? = some o ∨ clO S.length o = true) ∧ cls S.length x.vs = true ∧ E x S1
structure MkF (P : Program) (w : World) (K : PySem.W.Frag) (mg : Str → Option Value) (base : Heap) (c : Cg) (k : Nat) (x C : Str) (msp : ASp) : Prop where
  ex : ∃ sp : ASp, Mkr P w K mg base k x (c.cA C) (upSp c sp) ∧ ∀ ds S Q E, msp ds S Q E → sp (.ref S.length :: ds) (S ++ [.ins C []]) (fun v S' => v = .non ∧ frzQ S Q (.ref S.length) S') (frzE S E)
theorem wf_kk {c : Cg} {w : Wd} {S S1 : Sto} {H : Hp} (f : Wf c w S H) (h : ∀ (i : Nat) (o : O), S1[i]? = some o → S[i]? = some o ∨ clO S.length o = true) : ∀ o ∈ S1, clO S.length o = true := fun o ho => by
  obtain ⟨i, e⟩ := List.getElem?_of_mem ho
  rcases h i o e with e | e
  · exact wf_cl f o (List.mem_of_getElem? e)
  · exact e
/-- behind the arguments: a new instance, its __init__, frozen -/
theorem mkF_go {C : Str} {sp msp : ASp} (hsp : ∀ ds S Q E, msp ds S Q E → sp (.ref S.length :: ds) (S ++ [.ins C []]) (fun v S' => v = .non ∧ frzQ S Q (.ref S.length) S') (frzE S E))
    {w1 : Wd} {S1 : Sto} {H1 : Hp} {ds : List D} {vs : List V} {Q' : QD} {E' : XQ} {Q : VK} {E : XK} (f1 : Wf n.c w1 S1 H1) (r1 : RelL n.c w1 S1.length H1 ds vs) (ht : msp ds S1 Q' E')
    (hq : ∀ w' S' H' d v, Stp w1 S1.length H1 w' S'.length H' → Wf n.c w' S' H' → Rel n.c w' S'.length H' d v → Q' d S' → Q v H')
    (he : ∀ w' S' H' x cls d, Stp w1 S1.length H1 w' S'.length H' → Wf n.c w' S' H' → RelX n.c w' S'.length H' x cls d → E' x S' → E cls d H')
    (y dx : Addr) (hy : H1 y = none) (hdx : H1 dx = none) (hne : dx ≠ y) : upSp n.c sp (.ref y :: vs) (upd (upd H1 dx (.own y)) y (.ins (n.c.cA C) dx [])) (fun v H2 => v = .non ∧ Q (.ref y) H2) E := by
  have g : Same H1 (upd (upd H1 dx (.own y)) y (.ins (n.c.cA C) dx [])) := fun b u q => by
    rw [upd_ne (ne_of_none q hy), upd_ne (ne_of_none q hdx)]; exact q
  have s := Stp.push (w := w1) (N := S1.length) hy g
  have len : (S1 ++ [O.ins C []]).length = S1.length + 1 := by simp
  have e : (w1.push S1.length y).i S1.length = y := if_pos rfl
  have f2 : Wf n.c (w1.push S1.length y) (S1 ++ [.ins C []]) (upd (upd H1 dx (.own y)) y (.ins (n.c.cA C) dx [])) := f1.push (o := .ins C []) hy g ⟨dx, [], upd_same, rfl, .nil⟩
  have rs : Rel n.c (w1.push S1.length y) (S1 ++ [O.ins C []]).length (upd (upd H1 dx (.own y)) y (.ins (n.c.cA C) dx [])) (.ref S1.length) (.ref y) := by
    rw [len]
    have := Rel.ref (c := n.c) (w := w1.push S1.length y) (N := S1.length + 1) (H := upd (upd H1 dx (.own y)) y (.ins (n.c.cA C) dx [])) (n := S1.length) (Nat.lt_succ_self _)
    rw [e] at this
    exact this
  rw [← len] at s
  refine ⟨_, _, .ref S1.length :: ds, _, _, f2, .cons rs (r1.stp s), hsp ds S1 Q' E' ht, ?_, ?_⟩
  · rintro w' S' H' d v s' f' rd ⟨rfl, S2, T, r, rfl, hl, k, hz, q⟩
    cases rd
    have ss := s.trans s'
    have fc := f1.cut ss f' hl (wf_kk f1 k)
    refine ⟨rfl, hq w1 S2 H' r _ (by rw [hl]; exact ss.cut) fc ?_ q⟩
    rw [hl]
    exact frz_rel f1 ss f' hz (rs.stp s')
  · rintro w' S' H' x cl d s' f' rx ⟨S2, T, rfl, hl, k, kx, q⟩
    have ss := s.trans s'
    have fc := f1.cut ss f' hl (wf_kk f1 k)
    refine he w1 S2 H' x cl d (by rw [hl]; exact ss.cut) fc ?_ q
    rw [hl]
    exact rx.cut ss.up ss.ids kx
theorem j_nwF (c : MkF X.prog X.w X.K X.mg X.base n.c k x C sp) (hr : Room r X.A) (hk : k + 1 ≤ r) (hg : Gl X x) (hx : ∀ σ, PassesAt (L2N.CX X.prog X.w) X σ (WE n.W σ)) (ha : JA X n (e :: es) t)
    (hdb : (x == ("__debug__" : Str)) = false := by decide) (he : starEach (e :: es) X.env = (false, eval e X.env) :: starEach es X.env := by rfl) (hpl : (backTo pos (starEach es X.env)).any (·.1) = false := by rfl) :
    JE X n (.Call (.Name x p) (e :: es) [] pos) (aCall sp t) := by
  obtain ⟨sp0, M, hsp⟩ := c.ex
  refine PE.imp (pe_nw M hr hk hg hx ha hdb he hpl) fun σ H Q h => ?_
  obtain ⟨w, ρ, S, st, h⟩ := h
  refine (upW.bind st h).mono ?_
  rintro vs H1 ⟨w1, S1, ds, st1, _, r1, Q', E', ht, hq, he⟩ y dx hy hdx hne
  exact mkF_go (n := n) hsp st1.wf r1 ht hq he y dx hy hdx hne
theorem j_nwF0 (c : MkF X.prog X.w X.K X.mg X.base n.c k x C sp) (hr : Room r X.A) (hk : k + 1 ≤ r) (hg : Gl X x) (hx : ∀ σ, PassesAt (L2N.CX X.prog X.w) X σ (WE n.W σ))
    (hdb : (x == ("__debug__" : Str)) = false := by decide) : JE X n (.Call (.Name x p) [] [] pos) (aCall sp aNil) := by
  obtain ⟨sp0, M, hsp⟩ := c.ex
  refine PE.imp (pe_nw0 M hr hk hg hx hdb) fun σ H Q h => ?_
  obtain ⟨w, ρ, S, st, Q', E', ht, hq, he⟩ := h
  intro y dx hy hdx hne
  exact mkF_go (n := n) hsp st.wf .nil ht hq he y dx hy hdx hne
/-! with keywords -/
structure MkFK (P : Program) (w : World) (K : PySem.W.Frag) (mg : Str → Option Value) (base : Heap) (c : Cg) (k : Nat) (x C : Str) (na : Nat) (ks : List Str) (msp : ASp) : Prop where
  ex : ∃ (sp : ASp) (f : Addr) (fd : FuncData) (ps : List Str) (g : List Value → List Value → List Value), Mk K (c.cA C) f ∧ mg x = some (.ref (c.cA C)) ∧ FnOk P w K mg base (L2N.CX P w) k f fd ps (upSp c sp) ∧ KBn K fd ps (na + 1) ks g (fun vs zs => vs ++ zs) ∧
    ∀ ds S Q E, msp ds S Q E → sp (.ref S.length :: ds) (S ++ [.ins C []]) (fun v S' => v = .non ∧ frzQ S Q (.ref S.length) S') (frzE S E)
theorem run_mkrK {na : Nat} {C : Addr} {f : Addr} {fd : FuncData} {ps ks : List Str} {sp : Sp} {E : L2.St → XK} {g : List Value → List Value → List Value} {pins : List (Addr × Obj)} {σ : L2.St} {H : Hp} {s : Shared} {Q : VK} {us ws : List Value} {vs zs : List V} (M : Mk X.K C f)
    (F : FnOk X.prog X.w X.K X.mg X.base (L2N.CX X.prog X.w) k f fd ps sp) (hr : Room (k + 1) X.A) (hb : KBn X.K fd ps (na + 1) ks g (fun vs zs => vs ++ zs))
    (hx : PassesAt (L2N.CX X.prog X.w) X σ (E σ)) (I : Inv X pins σ H s) (r : Vals vs us) (rz : Vals zs ws) (l1 : vs.length = na) (l2 : zs.length = ks.length)
    (h : ∀ y dx, H y = none → H dx = none → dx ≠ y → sp (.ref y :: (vs ++ zs)) (upd (upd H dx (.own y)) y (.ins C dx [])) (fun v H2 => v = .non ∧ Q (.ref y) H2) (E σ)) :
    wpAny (model X.prog X.w) X.A (call (.ref C) us (ks.zip ws)) (EP X pins σ Q) X.xe s := by
  have hq := h (s.heap.objs.size + 1) s.heap.objs.size (I.hok.fresh (Nat.le_succ _)) (I.hok.fresh (Nat.le_refl _)) (Nat.ne_of_lt (Nat.lt_succ_self _))
  have I2 := Inv.made (C := C) I
  have r1 : Vals (V.ref (s.heap.objs.size + 1) :: vs) (Value.ref (s.heap.objs.size + 1) :: us) := .cons rfl r
  have r2 := hb.rel r1 rz
  have e1 : (Value.ref (s.heap.objs.size + 1) :: us).length = na + 1 := r1.length.symm.trans (congrArg Nat.succ l1)
  have e2 : ws.length = ks.length := rz.length.symm.trans l2
  refine wpAny_call (make_map (f := f) I.kIn M.makes M.init (beq_iff_eq.mp M.fn) (codeAny_mono (F.run _ X.stack _ _ ⟨Value.ref (s.heap.objs.size + 1) :: us, ks.zip ws⟩ (g (Value.ref (s.heap.objs.size + 1) :: us) ws) _ _ (E σ) (hr.make C us (ks.zip ws))
    (I2.env0.make C us (ks.zip ws)) (hb.to _ (Value.ref (s.heap.objs.size + 1) :: us) ws I2.kIn e1 e2) r2 hq) fun r s' hq' => ?_))
  cases r with
  | error e => exact hx pins _ _ e s' I2 hq'
  | ok fl =>
    cases fl with
    | ret u =>
      obtain ⟨v, H', I3, rv, ev, q3⟩ := I2.after hq'
      subst ev
      exact ⟨rv, ⟨V.ref (s.heap.objs.size + 1), H', I3, rfl, q3⟩⟩
    | next => exact False.elim hq'
    | brk => exact False.elim hq'
    | cont => exact False.elim hq'
theorem j_nwFK {na : Nat} {ks : List Str} {kws : List Keyword} (c : MkFK X.prog X.w X.K X.mg X.base n.c k x C na ks sp) (hr : Room r X.A) (hk : k + 1 ≤ r) (hg : Gl X x) (hx : ∀ σ, PassesAt (L2N.CX X.prog X.w) X σ (WE n.W σ))
    (ha : JA X n (e :: es) t) (hkw : JK X n kws tk) (hall : (backToKw pos (keywordEach kws X.env)).all (·.1.isSome) = true := by rfl) (hks : (backToKw pos (keywordEach kws X.env)).filterMap (·.1) = ks := by rfl)
    (hdb : (x == ("__debug__" : Str)) = false := by decide) (he : starEach (e :: es) X.env = (false, eval e X.env) :: starEach es X.env := by rfl)
    (hpl : ((backTo pos (starEach (e :: es) X.env)).any (·.1) || (backToKw pos (keywordEach kws X.env)).any (·.1.isNone)) = false := by rfl) :
    JE X n (.Call (.Name x p) (e :: es) kws pos) (aCallK na ks.length sp t tk) := by
  obtain ⟨sp0, f, fd, ps, g, M, hm, F, hb, hsp⟩ := c.ex
  refine PE.imp (t := tCallK na ks.length (fun vs H Q E => ∀ y dx, H y = none → H dx = none → dx ≠ y → upSp n.c sp0 (.ref y :: vs) (upd (upd H dx (.own y)) y (.ins (n.c.cA C) dx [])) (fun v H2 => v = .non ∧ Q (.ref y) H2) E) (WE n.W) (upA n t) (upA n tk)) ⟨fun pins s σ H Q I h => wpAny_Call_Name_kw (ld_glob I hg hm ?_ hdb)⟩ fun σ H Q h => ?_
  · refine PySem.W.callWith_KW (h₀ := X.base) I.ok.mod.kin M.kp hall (thn (ha.run pos pins s σ H _ I h) fun us s1 ⟨vs, H1, I1, r1, q⟩ => ?_) hpl he
    refine thn (hkw.run pos pins s1 σ H1 _ I1 q) fun ws s2 ⟨zs, H2, I2, rz, l1, l2, q2⟩ => ⟨I2.kIn, ?_⟩
    rw [hks]
    exact run_mkrK M F (hr.mono hk) hb (hx σ) I2 r1 rz l1 l2 q2
  · obtain ⟨w, ρ, S, st, h⟩ := h
    refine (upW.bind st h).mono ?_
    rintro vs H1 ⟨w1, S1, ds, st1, _, r1, h1⟩
    refine (upW.bind st1 h1).mono ?_
    rintro zs H2 ⟨w2, S2, es, st2, s2, r2, Q2, E2, ⟨l1, l2, h2⟩, hq2, he2⟩
    exact ⟨r1.len.symm.trans l1, r2.len.symm.trans l2, fun y dx hy hdx hne => mkF_go (n := n) hsp st2.wf ((r1.stp s2).append r2) h2 hq2 he2 y dx hy hdx hne⟩
end
/-! ### isinstance(e, T), e the error that is caught -/
structure IsxC (K : PySem.W.Frag) (C : Addr) : Prop where
  x : XfC K C
  cl : (PySem.W.clsIn K C).isSome = true
  ha : PySem.W.findIn K (.ref C) "__class__" = some (some (.builtin "object.__class__"))
  hn : PySem.W.specialIn K (.builtin "object.__class__") "__get__" = some (some (.builtin "getset_descriptor.__get__"))
  tk : PySem.W.takesIn K (.builtin "object.__class__") = some true
  hm : PySem.W.mroIn K C (.type "object") = some true
section
variable {X : Cx} {n : Cn} {a C : Addr} {x : Exc} {oe : Obj} {cls : Value} {d : Option Addr} {pn : List (Addr × Obj)} {ea eb : Expr} {t : AM (List D)} {p pos : Pos} {Cs : List Str}
theorem call_isx (T : IsxC X.K C) (hz : Zc cls d oe) (hf : ∃ vs, oe.data = .fields vs) : CallR (X.suite a ((a, oe) :: pn)) (.builtin "isinstance")
    (fun xs H Q => ∃ (c : V) (u : Value) (b : Bool), xs = [.ref a, c] ∧ cls = .ref C ∧ (∃ dd fs, d = some dd ∧ H dd = some (.xd fs)) ∧ ClsV c u ∧ PySem.W.kitOne X.K (.ref C) u = some b ∧ Q (.bl b) H) := by
  intro pins s σ H xs us Q I r h
  obtain ⟨c, u, b, rfl, ec, ⟨dd, fs, ed, hx⟩, k, e, q⟩ := h
  obtain ⟨u1, u2, rfl, r1, r2⟩ := vals2 r
  have e2 := k.eq r2
  subst e2 ec ed
  obtain rfl : u1 = Value.ref a := r1
  obtain ⟨ha, _⟩ := I.pin (a, oe) (List.mem_append_left _ List.mem_cons_self)
  obtain ⟨vs, hd⟩ := hf
  have hx : ObjOk X.prog X.w H s.heap dd (.xd fs) := I.hok dd _ hx
  obtain ⟨mA, hns, hr⟩ := hx
  obtain ⟨od, ho, hl⟩ := lookIn_ns hns
  have J : PySem.W.InstAt s.heap a oe C (some od) := ⟨ha, hz.1, by unfold PySem.W.notCls; rw [hd] <;> rfl, by rw [hz.2]; exact ho⟩
  exact PySem.W.kia_one (PySem.W.kitx_exc T.cl T.x.ga T.x.gg T.x.exC T.ha T.hn T.tk T.hm) I.kIn J e (fun z => nomatch z) fun tk => ⟨.bl b, H, I.tok tk, rfl, q⟩
/-- what isinstance says, by the error's class and the class that is asked for -/
def aIsx (a : Addr) (x : Exc) (Cs : List Str) (isx : Str → D → Option Bool) (t : AM (List D)) : AM D := fun ρ S Q E => (x.C ∈ Cs ∧ x.ns ≠ []) ∧ aBind t (fun ds => fun _ S Q _ => opt (two2 ds) fun p => p.1 = .adr a ∧ opt (isx x.C p.2) fun b => Q (.bl b) S) ρ S Q E
def clsOf (c : Cg) : D → Option Value
  | .ty T => some (.type T)
  | .cl C => some (.ref (c.cA C))
  | _ => none
theorem clsOf_rel {c : Cg} {w : Wd} {N : Nat} {H : Hp} {d : D} {v : V} {u : Value} (h : clsOf c d = some u) (r : Rel c w N H d v) : ClsV v u := by
  cases r <;> simp [clsOf] at h
  · subst h; exact .ty _
  · subst h; exact .own _
theorem j_isx {isx : Str → D → Option Bool} (T : ∀ C ∈ Cs, IsxC X.K (n.c.cA C)) (hI : ∀ C ∈ Cs, ∀ d b, isx C d = some b → ∃ u, clsOf n.c d = some u ∧ PySem.W.kitOne X.K (.ref (n.c.cA C)) u = some b)
    (hz : L2N.Zn cls d oe) (hf : ∃ vs, oe.data = .fields vs) (hg : Gl (X.suite a ((a, oe) :: pn)) "isinstance") (hm : X.mg "isinstance" = none) (ha : JA (X.suite a ((a, oe) :: pn)) (n.suite x cls d) [ea, eb] t)
    (he : starEach [ea, eb] X.env = (false, eval ea X.env) :: starEach [eb] X.env := by rfl) (hpl : (backTo pos (starEach [eb] X.env)).any (·.1) = false := by rfl) :
    JE (X.suite a ((a, oe) :: pn)) (n.suite x cls d) (.Call (.Name "isinstance" p) [ea, eb] [] pos) (aIsx a x Cs isx t) := by
  refine ⟨fun pins s σ H Q I h => ?_⟩
  obtain ⟨w, ρ, S, st, Q', E', ⟨⟨hC, hns⟩, ht⟩, hq, he'⟩ := h
  refine (pe_callB (call_isx (X := X) (T x.C hC) hz.zc hf) hg hm (by decide +kernel) ha (by decide) (by decide) he hpl).run pins s σ H Q I ?_
  have h : upW (n.suite x cls d).c (n.suite x cls d).W (Rel (n.suite x cls d).c) (aBind t fun ds => fun _ S Q _ => opt (two2 ds) fun p => p.1 = .adr a ∧ opt (isx x.C p.2) fun b => Q (.bl b) S) w ρ S σ H Q := ⟨Q', E', ht, hq, he'⟩
  refine (upW.bind st h).mono ?_
  rintro vs H1 ⟨w1, S1, ds, st1, _, r1, h1⟩
  refine h1.op fun Q2 hq hk => ?_
  obtain ⟨⟨d1, d2⟩, e1, e2, hq⟩ := opt_some hq
  obtain ⟨b, e3, q⟩ := opt_some hq
  obtain ⟨y, z, rfl, ry, rz⟩ := two_rel e1 r1
  obtain ⟨u, hu, hk1⟩ := hI x.C hC d2 b e3
  obtain ⟨g1, g2⟩ := st1.gx
  simp only at e2
  subst e2
  cases ry
  refine ⟨z, u, b, rfl, g1, ?_, clsOf_rel hu rz, hk1, fin0 st1.wf hk (.bl b) q⟩
  cases d with
  | none => exact absurd g2.1 hns
  | some dd =>
    obtain ⟨fs, h1, _⟩ := g2
    exact ⟨dd, fs, rfl, h1⟩
end
end A

set_option Elab.async false
set_option linter.all false
set_option maxRecDepth 100000
set_option maxHeartbeats 4000000
/-! isinstance(x, (T1, T2)) -/
namespace A
open PySem PySem.Spec PyProof.Rows L2
theorem seq_by {a b : AS} {De : EndsA} {ρ : Ev} {S : Sto} (h : ∀ N : Ev → Sto → Prop, (∀ ρ S, b De ρ S → N ρ S) → a { De with nx := N } ρ S) : sSeq a b De ρ S := h _ fun _ _ z => z
def rIsiA (K : PySem.W.Frag) : List V → Hp → VK → Prop := fun xs H Q => ∃ (x : V) (tp : Addr) (cs : List V) (t : Value) (us : List Value) (b : Bool), xs = [x, .ref tp] ∧ SqT K H tp cs ∧ Paired ClsV cs us ∧ TyX K H x t ∧ PySem.W.kitAny K t us = some b ∧ Q (.bl b) H
section
variable {X : Cx}
theorem kcall_isiA (K : PySem.W.Frag) (hK : X.K = K := by rfl) : CallR X (.builtin "isinstance") (rIsiA K) := by
  subst hK
  intro pins s σ H xs us Q I r h
  obtain ⟨x, tp, cs, t, ws, b, rfl, hT, k, ty, e, q⟩ := h
  have plain : H tp = some (.tup cs) ∨ (∃ o, H tp = some (.frz o (.tup cs))) → wpAny (model X.prog X.w) X.A (call (.builtin "isinstance") us) (EP X pins σ Q) X.xe s := fun hT => by
    obtain ⟨u1, u2, rfl, r1, r2⟩ := vals2 r
    cases (show u2 = Value.ref tp from r2)
    obtain ⟨P, Z, p, hx⟩ := kit_of I r1 ty
    have ok : ∃ rest, ObjOk X.prog X.w H s.heap tp (.tup cs) ∧ rest = () := by
      rcases hT with hT | ⟨o, hT⟩
      · exact ⟨(), I.hok tp _ hT, rfl⟩
      · exact ⟨(), (I.hok tp _ hT).2, rfl⟩
    obtain ⟨_, ⟨_, its, rv, o, h1, h2, n, h3⟩, _⟩ := ok
    have e3 := ClsV.all k rv
    subst e3
    obtain ⟨oc, od, dt, sl⟩ := o
    simp only at h2 h3
    subst h2 h3
    exact PySem.W.kia_tup Z I.kIn p h1 e hx fun tk => ⟨.bl b, H, I.tok tk, rfl, q⟩
  rcases hT with hT | ⟨o, its, n, hk, hc, hd, hz, rv⟩
  · exact plain hT
  · obtain ⟨u1, u2, rfl, r1, r2⟩ := vals2 r
    cases (show u2 = Value.ref tp from r2)
    obtain ⟨P, Z, p, hx⟩ := kit_of I r1 ty
    have e3 := ClsV.all k rv
    obtain ⟨oc, od, dt, sl⟩ := o
    obtain ⟨its⟩ := its
    simp only at hc hd e3
    subst hc hd e3
    exact PySem.W.kia_tup Z I.kIn p (I.kIn _ _ hk) e hx fun tk => ⟨.bl b, H, I.tok tk, rfl, q⟩
end
theorem kitAny_subTy {K : PySem.W.Frag} {a : String} (ha : a ∈ "NoneType" :: tyKnown) : ∀ {bs : List String}, (∀ b ∈ bs, b ∈ tyKnown) → PySem.W.kitAny K (.type a) (bs.map fun b => Value.type b) = some (bs.any fun b => subTy a b)
  | [], _ => rfl
  | b :: bs, h => by
    have e1 : PySem.W.kitOne K (.type a) (.type b) = some (subTy a b) := kit_ty (subTy_kit ha (h b (by simp)))
    have e2 := kitAny_subTy (K := K) ha (bs := bs) fun c hc => h c (by simp [hc])
    simp only [List.map_cons, List.any_cons, PySem.W.kitAny, e1]
    cases hb : subTy a b with
    | true => simp
    | false => simpa using e2
theorem tys_rel {c : Cg} {w : Wd} {N : Nat} {H : Hp} : ∀ {xs : List D} {vs : List V} {bs : List String}, xs.mapM asTy = some bs → RelL c w N H xs vs → Paired ClsV vs (bs.map fun b => Value.type b)
  | [], _, bs, h, .nil => by
    simp at h
    subst h
    exact .nil
  | d :: xs, v :: vs, bs, h, .cons r rs => by
    rw [List.mapM_cons] at h
    cases hm : xs.mapM asTy with
    | none => rw [hm] at h; cases d <;> simp [asTy] at h
    | some bs' =>
      rw [hm] at h
      cases d <;> simp [asTy] at h
      subst h
      cases r
      exact .cons (.ty _) (tys_rel hm rs)
theorem cs_isiT {c : Cg} : CallS c fIsiT (rIsiA c.K) := by
  intro w S H ds xs Q' Q f r h k
  obtain ⟨⟨d, ty⟩, e1, h⟩ := opt_some h
  obtain ⟨a, e2, h⟩ := opt_some h
  obtain ⟨bs, e3, hb, q⟩ := opt_some h
  obtain ⟨x, y, rfl, r1, r2⟩ := two_rel e1 r
  obtain ⟨hty, ha⟩ := tyN_rel f e2 r1
  cases ty <;> simp [tysOf] at e3
  rename_i ts
  cases r2 with
  | tup ht hs =>
    exact ⟨x, _, _, .type a, _, _, rfl, ht, tys_rel e3 hs, hty, kitAny_subTy ha hb, fin0 f k (.bl _) q⟩
/-! ### a, b, .. = a list that stays -/
def asL : D → Option (List D)
  | .lst xs => some xs
  | _ => none
def gTL (m : Nat) (gs : AGs) : AG := fun d ρ Q => opt (asL d) fun xs => xs.length = m ∧ gs xs ρ Q
theorem gl_lst {c : Cg} {vs : List Nat} {m : Nat} {gs : TGs} {gsD : AGs} (h2 : GLs c gs gsD vs) : GL c (gLst c.K m gs) (gTL m gsD) vs := by
  intro gx w ρ S σ H d v Q' Q st r h' k
  obtain ⟨xs, e, hm, h'⟩ := opt_some h'
  cases d <;> simp [asL] at e
  subst e
  cases r with
  | lst ha _ la => exact ⟨_, _, rfl, SqL.of ha, by rw [← la.len]; exact hm, h2 gx w ρ S σ H _ _ _ _ st la h' k⟩
theorem kpg_lst {X : Cx} (K : PySem.W.Frag) {es : List Expr} {k : Nat} {t : TGs} {n : Nat} {pos : Pos} (hc : X.calm = true) (h : PGs X es t) (hK : X.K = K := by rfl)
    (hn : (assignEach es X.env).length = n := by rfl) (hst : (assignEach es X.env).findIdx? (·.1) = none := by rfl) : PG X (.Tuple es k pos) (gLst K n t) := hK ▸ pg_lst hc h hn hst
end A

set_option Elab.async false
set_option linter.all false
set_option maxRecDepth 100000
set_option maxHeartbeats 4000000
/-! i + x by x's own __radd__; x += y without an __iadd__ -/
namespace PySem.W
open PySem PySem.Calls PyProof.Rows
section
variable {prog : Program} {w : World} {A : Around} {E : Value → Shared → Prop} {s : Shared} {K : Frag} {x C L f dx : Addr} {h₀ : Heap} {m : Str → Option Value} {ox : Obj} {od : Option Obj} {nm T : String}
/-- int.__add__ takes no instance -/
theorem int_add_no {i : Int} {t : Tok} {Q : Value → Shared → Prop} (hx : s.heap.get? x = some (instObj C dx)) (h : Q .notImplemented s) : wpAny (model prog w) A (call (.builtin "int.__add__") [.int i t, .ref x]) Q E s := by
  refine wpAny_call_entry F.slot_int_add (typeIs_int s i t) F.entry_int_add ?_ (F.args_int_add_2 _ _)
  unfold Builtin.«int.__add__»
  have e1 : slotArgs "__add__" 1 ⟨[.int i t, .ref x], []⟩ = pure (.int i t, [.ref x]) := by kernel_rfl
  have e2 : Builtin.Int.intOfSelf (.int i t) = pure i := by kernel_rfl
  unfold Builtin.Int.intBinary
  rw [e1]
  refine wpAny_bind (wpAny_pure ?_)
  dsimp only
  rw [e2]
  refine wpAny_bind (wpAny_pure ?_)
  unfold asInt?
  refine wpAny_bind ?_
  show wpAny _ _ (do
    match (← load x).data with
    | .prim (.int i _) => pure (some i)
    | _ => pure none) _ _ _
  refine wpAny_bind (wpAny_load hx ?_)
  refine wpAny_pure ?_
  refine wpAny_bind (wpAny_rule ?_)
  exact wpAny_pure ⟨_, rfl, h⟩
/-- int + an instance, by the instance's own reflected def -/
theorem ksp_rbin {i : Int} {t : Tok} {Q : Value → Shared → Prop} (Fm : Fr h₀ L s.heap m) (X₀ : K.In h₀) (I : InstAt s.heap x ox C od) (hx : s.heap.get? x = some (instObj C dx)) (hc : selfFirst K C = true) (g : Addr)
    (hs : findIn K (.ref C) "__add__" = some (some (.ref g))) (hr : findIn K (.ref C) "__radd__" = some (some (.ref f))) (hf : isFn K (.ref f) = true) (hsub : subIn K (.ref C) (.type "int") = some false)
    (h : wpAny (model prog w) A (call (.ref f) [.ref x, .int i t]) (CmpBack Q) E s) : wpAny (model prog w) A (binaryOp .Add (.int i t) (.ref x)) Q E s := by
  have X := X₀.keeps Fm.keep
  obtain ⟨cd, rest, hcd, hm⟩ := ksp_first hc
  have one := ksp_try (name := "__radd__") X I hr hf h
  have dec : wpAny (model prog w) A (tryMethod (.int i t) (PySem.dunder "add") (.ref x)) (fun r s' => r = none ∧ s' = s) E s := by
    have ti : s.TypeIs (.int i t) "int" := typeIs_int s i t
    with_reducible refine wpAny_tryMethod_declines (T := "int") (id := "int.__add__") ti F.slot_int_add ?_
    have := int_add_no (prog := prog) (w := w) (A := A) (E := E) (i := i) (t := t) (Q := fun v s' => v = .notImplemented ∧ (none : Option Value) = none ∧ s' = s) hx ⟨rfl, rfl, rfl⟩
    exact this
  obtain ⟨hh, gg, d, tt, os⟩ := s
  have L1 : Looks (model prog w) hh (typeOf (.ref x)) (.ref C) := I.type
  have L2 : Looks (model prog w) hh (typeOf (.int i t)) (.type "int") := Looks.of_pure rfl
  have e1 : PySem.dunder "add" = ("__add__" : Str) := by kernel_rfl
  have e2 : dunderR "add" = ("__radd__" : Str) := by kernel_rfl
  rw [← e1] at hs
  have L3 : Looks (model prog w) hh (fillsNumberSlot (.ref C) "add") true := fills_K X hcd hm hs
  have L4 : Looks (model prog w) hh (fillsNumberSlot (.type "int") "add") true := Looks.of_pure F.fills_int_add
  have L5 : Looks (model prog w) hh (isSubtype (.ref C) (.type "int")) false := looks_subIn X hsub
  have L7 : Looks (model prog w) hh (numberSlotInPython (.type "int") "add") false := Looks.of_pure rfl
  have hne : (Value.type "int" == Value.ref C) = false := Bool.eq_false_iff.mpr fun q => by cases beq_iff_eq.mp q
  have hi : Operator.info .Add = ("+", "add") := rfl
  simp only [binaryOp, hi]
  refine wpAny_holding (wpAny_bind ?_)
  unfold binaryOp1
  refine wpAny_bind (L2.at ?_)
  refine wpAny_bind (L1.at ?_)
  refine wpAny_bind (L4.at ?_)
  simp only [hne, Bool.false_eq_true, if_false]
  refine wpAny_bind (L3.at ?_)
  simp only [Bool.and_self, if_true]
  refine wpAny_bind (L5.at ?_)
  simp only [Bool.false_eq_true, if_false, pure_bind, Bool.not_false, Bool.and_self, if_true]
  refine wpAny_bind (L7.at ?_)
  simp only [Bool.false_eq_true, if_false, pure_bind, Bool.not_false, Bool.and_self, if_true]
  rw [e2]
  refine wpAny_bind (wpAny_mono dec (fun r s' hr => ?_) fun _ _ e => e)
  obtain ⟨rfl, rfl⟩ := hr
  dsimp only
  refine wpAny_bind (wpAny_mono one (fun r s' hr => ?_) fun _ _ e => e)
  obtain ⟨v, rfl, hq⟩ := hr
  dsimp only
  exact wpAny_bind (wpAny_rule (wpAny_pure (wpAny_pure hq)))
/-- x op i, up to the answer -/
theorem ksp_bin1 {nm : String} {b : Value} {fo ro rc : Option Value} {Q : Value → Shared → Prop} (X : K.In s.heap) (I : InstAt s.heap x ox C od) (hb : typeOf b = pure (.type T)) (hc : selfFirst K C = true)
    (hs : findIn K (.ref C) (PySem.dunder nm) = some (some (.ref f))) (hf : isFn K (.ref f) = true) (hr : findIn K (.ref C) (dunderR nm) = some rc) (hp : rc = none ∨ ∃ g : Addr, rc = some (.ref g))
    (h1 : findIn K (.type T) (PySem.dunder nm) = some fo) (h2 : findIn K (.type T) (dunderR nm) = some ro) (hsub : subIn K (.type T) (.ref C) = some false)
    (h : wpAny (model prog w) A (call (.ref f) [.ref x, b]) (CmpBack Q) E s) : wpAny (model prog w) A (binaryOp1 nm (.ref x) b) (fun r s' => ∃ v, r = some v ∧ Q v s') E s := by
  obtain ⟨cd, rest, hcd, hm⟩ := ksp_first hc
  have one := ksp_try X I hs hf h
  obtain ⟨hh, g, d, tt, os⟩ := s
  have L1 : Looks (model prog w) hh (typeOf (.ref x)) (.ref C) := I.type
  have L2 : Looks (model prog w) hh (typeOf b) (.type T) := Looks.of_pure hb
  have L3 : Looks (model prog w) hh (fillsNumberSlot (.ref C) nm) true := fills_K X hcd hm hs
  have L4 : Looks (model prog w) hh (fillsNumberSlot (.type T) nm) ((fo.isSome && !isSeqSlot fo) || (ro.isSome && !isSeqSlot ro)) := ksp_fillsT X h1 h2
  have L5 : Looks (model prog w) hh (isSubtype (.type T) (.ref C)) false := looks_subIn X hsub
  have L6 : Looks (model prog w) hh (numberSlotInPython (.ref C) nm) true := ksp_inPy X hs hr hp
  have L7 : Looks (model prog w) hh (numberSlotInPython (.type T) nm) false := Looks.of_pure rfl
  have L8 : Looks (model prog w) hh (typeLookup (.type T) (dunderR nm)) ro := looks_findIn X h2
  generalize ((fo.isSome && !isSeqSlot fo) || (ro.isSome && !isSeqSlot ro)) = right at L4
  have hne : (Value.ref C == Value.type T) = false := Bool.eq_false_iff.mpr fun q => by cases beq_iff_eq.mp q
  unfold binaryOp1
  refine wpAny_bind (L1.at (wpAny_bind (L2.at (wpAny_bind (L3.at ?_)))))
  simp only [hne, Bool.false_eq_true, if_false]
  cases right with
  | false =>
    ksp_lk
    refine wpAny_mono one (fun r s' hr' => ?_) fun _ _ e => e
    obtain ⟨v, rfl, hq⟩ := hr'
    ksp_lk
    exact ⟨_, rfl, hq⟩
  | true =>
    ksp_lk
    refine wpAny_mono one (fun r s' hr' => ?_) fun _ _ e => e
    obtain ⟨v, rfl, hq⟩ := hr'
    ksp_lk
    exact ⟨_, rfl, hq⟩
/-- no in-place def of its own -/
theorem ksp_noI {h : Heap} {nm : String} {add : Bool} (X : K.In h) (hm : (clsIn K C).map (·.mro) = some [.ref C, .type "object"]) (h1 : findIn K (.ref C) (dunderI nm) = some none) (h2 : findIn K (.type "object") (dunderI nm) = some none) {M : Model} : Looks M h (fillsInplaceSlot (.ref C) nm add) false := by
  intro A Q E s k q
  obtain ⟨cd, hcd, em⟩ := Option.map_eq_some_iff.mp hm
  have Lm : Looks M h (mroOf (.ref C)) cd.mro := (looks_clsIn X hcd).andThen (f := fun cd => pure cd.mro) .now
  have Lm' := Lm.keeps k
  obtain ⟨hh, g, d, tt, os⟩ := s
  have X' : K.In hh := X.keeps k
  have L1 : Looks M hh (typeLookup (.ref C) (dunderI nm)) none := looks_findIn X' h1
  have L2 : Looks M hh (typeLookup (.type "object") (dunderI nm)) none := looks_findIn X' h2
  unfold fillsInplaceSlot
  refine wpAny_bind (Lm'.at ?_)
  rw [em, List.anyM_cons]
  refine wpAny_bind (wpAny_bind (L1.at (wpAny_pure ?_)))
  try dsimp only
  rw [List.anyM_cons]
  refine wpAny_bind (wpAny_bind (L2.at (wpAny_pure ?_)))
  try dsimp only
  exact wpAny_pure q
theorem ksp_ibinT {op : Operator} {b : Value} {fo ro rc : Option Value} {Q : Value → Shared → Prop} (F : Fr h₀ L s.heap m) (X₀ : K.In h₀) (I : InstAt s.heap x ox C od) (hb : typeOf b = pure (.type T)) (hc : selfFirst K C = true)
    (hm : (clsIn K C).map (·.mro) = some [.ref C, .type "object"]) (hi1 : findIn K (.ref C) (dunderI op.info.2) = some none) (hi2 : findIn K (.type "object") (dunderI op.info.2) = some none)
    (hs : findIn K (.ref C) (PySem.dunder op.info.2) = some (some (.ref f))) (hf : isFn K (.ref f) = true) (hr : findIn K (.ref C) (dunderR op.info.2) = some rc) (hp : rc = none ∨ ∃ g : Addr, rc = some (.ref g))
    (h1 : findIn K (.type T) (PySem.dunder op.info.2) = some fo) (h2 : findIn K (.type T) (dunderR op.info.2) = some ro) (hsub : subIn K (.type T) (.ref C) = some false)
    (h : wpAny (model prog w) A (call (.ref f) [.ref x, b]) (CmpBack Q) E s) : wpAny (model prog w) A (inplaceOp op (.ref x) b) Q E s := by
  have X := X₀.keeps F.keep
  have one := ksp_bin1 X I hb hc hs hf hr hp h1 h2 hsub h
  have L1 : Looks (model prog w) s.heap (typeOf (.ref x)) (.ref C) := I.type
  have L2 : Looks (model prog w) s.heap (fillsInplaceSlot (.ref C) op.info.2 (op == .Add)) false := ksp_noI X hm hi1 hi2
  unfold inplaceOp
  refine wpAny_holding ?_
  refine wpAny_bind (L1.at ?_)
  refine wpAny_bind (L2.at ?_)
  simp only [Bool.false_eq_true, if_false, pure_bind]
  refine wpAny_bind (wpAny_mono one (fun r s' hr => ?_) fun _ _ e => e)
  obtain ⟨v, rfl, hq⟩ := hr
  dsimp only
  exact wpAny_pure hq
end
end PySem.W

set_option Elab.async false
set_option linter.all false
set_option maxRecDepth 100000
set_option maxHeartbeats 4000000
/-! i + x, x += i over the layer -/
namespace A
open PySem PySem.Spec PyProof.Rows L2
/-- the class at C has a reflected + of its own -/
structure RadF (K : PySem.W.Frag) (C : Addr) : Prop where
  sf : PySem.W.selfFirst K C = true
  ad : ∃ g : Addr, PySem.W.findIn K (.ref C) "__add__" = some (some (.ref g))
  no : PySem.W.subIn K (.ref C) (.type "int") = some false
/-- no in-place def of its own -/
structure NoI (K : PySem.W.Frag) (C : Addr) (nm : String) : Prop where
  mro : (PySem.W.clsIn K C).map (·.mro) = some [.ref C, .type "object"]
  c : PySem.W.findIn K (.ref C) (PySem.dunderI nm) = some none
  o : PySem.W.findIn K (.type "object") (PySem.dunderI nm) = some none
section
variable {X : Cx} {n : Cn} {k r : Nat} {sp : ASp} {C : Str} {a b e : Expr} {ta tb : AM D} {pos pos' : Pos} {x : Str} {i : Nat}
def aRaddO (C : Str) (sp : ASp) (ta tb : AM D) : AM D := aBind ta fun x => aBind tb fun y => fun _ S Q E => opt (asI x) fun _ => opt (insOf S y C) fun _ => sp [y, x] S Q E
theorem rel_cmpback {K : Value → Shared → Prop} {u : Value} {z : V} {s' : Shared} (rz : RelV z u) (h : K u s') : PySem.W.CmpBack K u s' := SlX.cmpback rz h
theorem j_raddO (M : Own X.prog X.w X.K X.mg X.base k (n.c.cA C) "__radd__" (upSp n.c sp)) (R : RadF X.K (n.c.cA C)) (hr : Room r X.A) (hk : k ≤ r) (hx : ∀ σ, PassesAt (L2N.CX X.prog X.w) X σ (WE n.W σ))
    (ha : JE X n a ta) (hb : JE X n b tb) : JE X n (.BinOp a .Add b pos) (aRaddO C sp ta tb) := by
  obtain ⟨f, hs, hf, F⟩ := M.ex
  obtain ⟨g, hg⟩ := R.ad
  have main : PE X (.BinOp a .Add b pos) (fun σ H Q => upE n ta σ H fun x H1 => upE n tb σ H1 fun y H2 => (∃ i, x = .int i) ∧ Ins H2 (n.c.cA C) y ∧ upSp n.c sp [y, x] H2 Q (WE n.W σ)) := by
    refine ⟨fun pins s σ H Q I h => ?_⟩
    refine wpAny_BinOp (binT ha hb I h fun v u s2 x y H2 I2 rx ry q => ?_)
    obtain ⟨⟨i, rfl⟩, hi, q⟩ := q
    obtain ⟨t, rfl⟩ := rx
    obtain ⟨aa, dx, fs, rfl, hA⟩ := id hi
    obtain ⟨aa', ox, od, e1, rfl, J⟩ := hi.inst I2 ry
    cases e1
    obtain ⟨mm, hF⟩ := I2.fr
    have hobj := (show ObjOk X.prog X.w H2 s2.heap aa (.ins (n.c.cA C) dx fs) from I2.hok aa _ hA).2.2.2.1
    refine PySem.W.ksp_rbin hF I2.ok.mod.kin J hobj R.sf g hg hs hf R.no ?_
    refine wpAny_mono (run_raw F (hr.mono hk) I2.env0 (hx σ) I2 (.cons (rel_ref aa) (.cons (show RelV (.int i) (.int i t) from ⟨t, rfl⟩) .nil)) q) (fun w s' z => ?_) fun _ _ z => z
    obtain ⟨z', H', I', rz, qz⟩ := z
    exact SlX.cmpback rz ⟨z', H', I', rz, qz⟩
  refine PE.imp main fun σ H Q ⟨w, ρ, S, st, h⟩ => ?_
  refine (upW.bind st h).mono ?_
  rintro x H1 ⟨w1, S1, d, st1, _, r1, h1⟩
  refine (upW.bind st1 h1).mono ?_
  rintro y H2 ⟨w2, S2, e, st2, s2, r2, Q2, E2, h2, hq2, he2⟩
  obtain ⟨i, e1, h2⟩ := opt_some h2
  obtain ⟨fs, e2, h2⟩ := opt_some h2
  obtain ⟨rfl, rfl⟩ := asI_rel e1 r1
  exact ⟨⟨i, rfl⟩, ins_rel st2.wf e2 r2, upSp.of (ρ := ρ) ⟨Q2, E2, h2, hq2, he2⟩ st2.wf (.cons r2 (.cons (.int i) .nil))⟩
/-- x op= i -/
def sAugO (C : Str) (i : Nat) (sp : ASp) (ta : AM D) : AS := fun De ρ S => opt (slot ρ i) fun d => sBind ta (fun e De ρ S => opt (insOf S d C) fun _ => opt (asI e) fun _ => sp [d, e] S (fun v S' => De.nx (ρ.set i (some v)) S') fun _ _ => False) De ρ S
theorem ip_O {op : Operator} {Cc : Addr} {sp' : Sp} (M : Own X.prog X.w X.K X.mg X.base k Cc (PySem.dunder op.info.2) sp') (sf : PySem.W.selfFirst X.K Cc = true) (ri : RtI X.K Cc op.info.2) (ni : NoI X.K Cc op.info.2) (hr : Room r X.A) (hk : k ≤ r) :
    PIp X op (fun x y H Q => Ins H Cc x ∧ (∃ i, y = .int i) ∧ sp' [x, y] H Q EF) := by
  obtain ⟨f, hs, hf, F⟩ := M.ex
  intro pins s σ H x y v u Q I rx ry q
  obtain ⟨hi, ⟨i, rfl⟩, q⟩ := q
  obtain ⟨a, ox, od, rfl, rfl, J⟩ := hi.inst I rx
  obtain ⟨mm, hF⟩ := I.fr
  obtain ⟨t, rfl⟩ := ry
  obtain ⟨fo, h1⟩ := Option.isSome_iff_exists.mp ri.h1
  obtain ⟨ro, h2⟩ := Option.isSome_iff_exists.mp ri.h2
  obtain ⟨rc, h3, h4⟩ := ri.hr
  refine PySem.W.ksp_ibinT (T := "int") hF I.ok.mod.kin J rfl sf ni.mro ni.c ni.o hs hf h3 h4 h1 h2 ri.hs ?_
  refine wpAny_mono (run_raw (E := EN) F (hr.mono hk) I.env0 (passN rfl rfl σ) I (.cons (rel_ref a) (.cons (show RelV (.int i) (.int i t) from ⟨t, rfl⟩) .nil)) q) (fun w s' z => ?_) fun _ _ z => z
  obtain ⟨z', H', I', rz, qz⟩ := z
  exact SlX.cmpback rz ⟨z', H', I', rz, qz⟩
theorem js_augO {op : Operator} (M : Own X.prog X.w X.K X.mg X.base k (n.c.cA C) (PySem.dunder op.info.2) (upSp n.c sp)) (sf : PySem.W.selfFirst X.K (n.c.cA C) = true) (ri : RtI X.K (n.c.cA C) op.info.2) (ni : NoI X.K (n.c.cA C) op.info.2) (hr : Room r X.A) (hk : k ≤ r)
    (hN : X.N.Nodup) (hi : X.N[i]? = some x) (hx : Loc X.env.scope x) (he : JE X n e ta) (hf : X.fn x = true ∨ X.env.scope.names.lookup x = some .local := by first | exact .inl rfl | exact .inr rfl | assumption) :
    JS X n (.AugAssign (.Name x pos') op e pos) (sAugO C i sp ta) := by
  refine PS.imp (ps_aug hN hi hx he (ip_O M sf ri ni hr hk) hf) fun De σ H h => ?_
  obtain ⟨w, ρ, S, D', st, h, k⟩ := h
  obtain ⟨d, ed, h⟩ := opt_some h
  obtain ⟨v, hv, _⟩ := st.ev.2 i d (slot_get ed)
  refine ⟨v, hv, ?_⟩
  refine (sW.bind st h k).mono ?_
  rintro y H1 ⟨w1, S1, e, st1, s1, r1, h1, k1⟩
  obtain ⟨fs, e1, h1⟩ := opt_some h1
  obtain ⟨j, e2, h1⟩ := opt_some h1
  obtain ⟨v', hv', rv⟩ := st1.ev.2 i d (slot_get ed)
  have : v' = v := Option.some.inj (Option.some.inj (hv'.symm.trans hv))
  subst this
  obtain ⟨rfl, rfl⟩ := asI_rel e2 r1
  refine ⟨ins_rel st1.wf e1 rv, ⟨j, rfl⟩, w1, S1, [d, .int j], _, _, st1.wf, .cons rv (.cons (.int j) .nil), h1, fun w' S' H' u z s' f' rz q => ?_, fun _ _ _ _ _ _ _ _ _ z => z.elim⟩
  have st2 := st1.step s' f'
  exact k1.nx w' _ S' _ H' s' ⟨st2.wf, st2.ev.set rz, st2.gx⟩ q
end
end A

set_option Elab.async false
set_option linter.all false
set_option maxRecDepth 100000
set_option maxHeartbeats 4000000
/-! zip of two lists or two tuples that stay -/
namespace A
open PySem PySem.Spec PyProof.Rows L2
def aZip (t : AM (List D)) : AM (List D) := aBind t fun ds => fun _ S Q _ => opt (two2 ds) fun p =>
  (opt (fvL p.1) fun xs => opt (fvL p.2) fun ys => Q (zipD xs ys) S) ∨ (opt (asT p.1) fun xs => opt (asT p.2) fun ys => Q (zipD xs ys) S)
theorem asT_stay {c : Cg} {w : Wd} {N : Nat} {H : Hp} {d : D} {v : V} {xs : List D} (h : asT d = some xs) (r : Rel c w N H d v) : ∃ a vs, v = .ref a ∧ SqT c.K H a vs ∧ RelL c w N H xs vs ∧ ∀ w2 N2 H2, Stp w N H w2 N2 H2 → SqT c.K H2 a vs := by
  cases r with
  | @tup a ys vs h1 h3 =>
    simp [asT] at h; subst h
    exact ⟨a, vs, rfl, h1, h3, fun w2 N2 H2 s => SqT.stp0 s.to0 h1⟩
  | _ => simp [asT] at h
theorem zip_walk {c : Cg} {w : Wd} {N : Nat} {H : Hp} {xs ys : List D} {vs us : List V} {J : It} {G : Hp → Prop} (hl : RelL c w N H xs vs) (hl2 : RelL c w N H ys us) (hG : ∀ w2 N2 H2, Stp w N H w2 N2 H2 → G H2)
    (hw : Walk J (min vs.length us.length) G (YPair (fun i => vs[i]?) (fun i => us[i]?))) : WalkD c w N H J (zipD xs ys) := by
  have el : (zipD xs ys).length = min vs.length us.length := by simp [zipD, hl.len, hl2.len]
  refine ⟨G, YPair (fun i => vs[i]?) (fun i => us[i]?), by rw [el]; exact hw, hG, ?_⟩
  rintro w2 N2 H2 i z H3 s hi ⟨T, x, y, rfl, hT, rfl, hx, hy⟩
  have hi' : i < min xs.length ys.length := by simpa [zipD] using hi
  obtain ⟨d1, h1, r1⟩ := hl.getV hx
  obtain ⟨d2, h2, r2⟩ := hl2.getV hy
  refine ⟨same_new hT _, .tup [xs.getD i .non, ys.getD i .non], by simp only [zipD, List.getElem?_map, List.getElem?_range hi', Option.map_some], ?_⟩
  have e1 : xs.getD i .non = d1 := by simp [List.getD, h1]
  have e2 : ys.getD i .non = d2 := by simp [List.getD, h2]
  rw [e1, e2]
  exact pair_new hT (r1.stp s) (r2.stp s)
section
variable {X : Cx} {n : Cn} {t : AM (List D)} {e e2 : Expr} {p pos tpos : Pos}
theorem ji_zip {elts : List Expr} {kk : Nat} (hg : Gl X "zip") (hm : X.mg "zip" = none) (ha : JA X n [e, e2] t)
    (hs : starEach [e, e2] X.env = (false, eval e X.env) :: starEach [e2] X.env := by rfl) (hpl : (backTo pos (starEach [e2] X.env)).any (·.1) = false := by rfl) (hK : X.K = n.c.K := by rfl) :
    JI X n (.Tuple elts kk tpos) (.Call (.Name "zip" p) [e, e2] [] pos) (aZip t) := PI.imp (RZ.pi_zipA hg hm ha hs hpl) fun σ H R h => by
  refine (upI.bind h).mono ?_
  rintro v H1 ⟨w1, ρ, S1, ds, f1, r1, Q', E', hf, k⟩
  obtain ⟨⟨d1, d2⟩, e1, hf⟩ := opt_some hf
  obtain ⟨x, y, rfl, rx, ry⟩ := two_rel e1 r1
  rw [hK]
  rcases hf with hf | hf
  · obtain ⟨xs, ex, hf⟩ := opt_some hf
    obtain ⟨ys, ey, q⟩ := opt_some hf
    obtain ⟨a, vs, rfl, ha, hla, sa⟩ := fvL_stay ex rx
    obtain ⟨b, us, rfl, hb, hlb, sb⟩ := fvL_stay ey ry
    exact ⟨a, b, vs, us, rfl, .inl ⟨ha, hb, k _ q _ (zip_walk hla hlb (fun w2 N2 H2 s => ⟨sa _ _ _ s, sb _ _ _ s⟩) (walk_zip rfl))⟩⟩
  · obtain ⟨xs, ex, hf⟩ := opt_some hf
    obtain ⟨ys, ey, q⟩ := opt_some hf
    obtain ⟨a, vs, rfl, ha, hla, sa⟩ := asT_stay ex rx
    obtain ⟨b, us, rfl, hb, hlb, sb⟩ := asT_stay ey ry
    refine ⟨a, b, vs, us, rfl, .inr ⟨ha, hb, k _ q _ (zip_walk (G := fun H => SqT n.c.K H a vs ∧ SqT n.c.K H b us) hla hlb (fun w2 N2 H2 s => ⟨sa _ _ _ s, sb _ _ _ s⟩) ?_)⟩⟩
    refine ⟨fun i _ hi q => ?_, fun _ q => ⟨vs, us, q.1, q.2, by omega⟩, fun i H v H' _ q y => ?_⟩
    · have h1 : i < vs.length := by omega
      have h2 : i < us.length := by omega
      exact ⟨vs, us, vs[i], us[i], q.1, q.2, by simp [h1], by simp [h2]⟩
    · obtain ⟨T, x, z, h1, h2, h3, h4, h5⟩ := y
      exact ⟨T, x, z, h1, h2, h3, h4 vs q.1, h5 us q.2⟩
end
end A

set_option Elab.async false
set_option linter.all false
set_option maxRecDepth 100000
set_option maxHeartbeats 4000000
/-! a generator's body: if, for -/
namespace L2
open PySem PySem.Spec PyProof.Rows GenW
section
variable {X : Cx} {st : Stmt} {rest : List Stmt}
theorem GS.imp {t t' : TGn} (h : GS X st t) (k : ∀ D ys σ H, t' D ys σ H → t D ys σ H) : GS X st t' :=
  ⟨fun A S ip R n ys s₀ c fs K J gd lv s σ H D g hn gk hI ht => h.run A S ip R n ys s₀ c fs K J gd lv s σ H D g hn gk hI (k D ys σ H ht)⟩
theorem GSs.imp {t t' : TGn} (h : GSs X rest t) (k : ∀ D ys σ H, t' D ys σ H → t D ys σ H) : GSs X rest t' :=
  ⟨fun A S ip R n ys s₀ c fs K J gd lv s σ H D g hn gk hI ht => h.run A S ip R n ys s₀ c fs K J gd lv s σ H D g hn gk hI (k D ys σ H ht)⟩
def tGIf (c : TT) (t u : TGn) : TGn := fun D ys σ H => c σ H fun b H1 => if b = true then t D ys σ H1 else u D ys σ H1
theorem gs_if {test : Expr} {a b : List Stmt} {pos : Pos} {tc : TT} {t u : TGn} (hc : PT X test tc) (ha : GSs X a t) (hb : GSs X b u) : GS X (.If test a b pos) (tGIf tc t u) := by
  refine ⟨fun A S ip R n ys s₀ c fs K J gd lv s σ H D g hn k hI ht => ?_⟩
  rw [exec_If]
  refine seg_bind_wrap (wpAny_standAt ?_)
  refine seg_bind_wrap ?_
  rw [g.over]
  obtain ⟨acc, cc, r, I⟩ := hI
  refine wpAny_mono (hc.run _ s σ H _ I ht) (fun d s1 hd => ?_) fun x s' hx => k.exc n s₀ x s' hx
  obtain ⟨H1, I1, q1⟩ := hd
  cases d with
  | true =>
    rw [if_pos rfl] at q1 ⊢
    exact ha.run A S ip R n ys s₀ c fs K J gd lv s1 σ H1 D g hn k ⟨acc, cc, r, I1⟩ q1
  | false =>
    rw [if_neg Bool.false_ne_true] at q1 ⊢
    exact hb.run A S ip R n ys s₀ c fs K J gd lv s1 σ H1 D g hn k ⟨acc, cc, r, I1⟩ q1
def tGFor (wi : TI) (g : TG) (tb : TGn) : TGn := fun D ys σ H => wi σ H fun J H1 => ∃ W : Nat → Nat → List V → St → Hp → Prop, (∃ m, W 0 m ys σ H1) ∧ ∀ i m ys σ H, W i m ys σ H →
  (J.stop i H ∧ D.nx ys σ H) ∨ (J.go i H ∧ ∃ N : List V → St → Hp → Prop, (∀ ys' σ' H', N ys' σ' H' → ∃ m', m' < m ∧ W (i + 1) m' ys' σ' H') ∧ ∀ x H', J.yld i H x H' → g x σ H' fun σ2 H2 => tb { D with nx := N, ct := N, bk := D.nx } ys σ2 H2)
theorem segw_bind {M : Model} {A : Around} {R : GenEnd} {Y : Protocol} {n : Nat} {s₀ s : Shared} {c : Code} {fs : List Frame} {α β : Type} {m : Sem α} {f : α → Sem β} {K : β → Sem PySem.Fin} {J : Value → Sem PySem.Fin} {gd : Bool → Bool} {lv : List Value → List Value}
    (h : Seg M A R Y n s₀ c (m.wrap (fun a => (f a).wrap K J gd lv) J gd lv) fs s) : Seg M A R Y n s₀ c ((m >>= f).wrap K J gd lv) fs s := by
  rw [Sem.bind_eq_wrap' m f, Sem.wrap_wrap]
  exact h
theorem gs_for {tg iter : Expr} {body : List Stmt} {pos : Pos} {wi : TI} {gt : TG} {tb : TGn} (hp : PassesOwn (model X.prog X.w) X.A X.env X.xe) (hcm : X.calm = true) (hi : PI X tg iter wi) (hg : PG X tg gt) (hb : GSs X body tb)
    (hs : ∀ x, foldedSetIterable iter X.env x = pure x := by intro _; rfl) : GS X (.For tg iter body [] pos) (tGFor wi gt tb) := by
  refine ⟨fun A S ip R n ys s₀ c fs K J gd lv s σ H D g hn k hI ht => ?_⟩
  rw [exec_For]
  obtain ⟨acc, cc, r, I⟩ := hI
  refine seg_bind_wrap (wpAny_standAt ?_)
  refine seg_bind_wrap ?_
  rw [g.over]
  refine wpAny_mono (hi.run _ s σ H _ I ht) (fun v s1 h1 => ?_) fun x s' hx => k.exc n s₀ x s' hx
  refine seg_bind_wrap (wpAny_of_eq (hs v) ?_)
  refine seg_bind_wrap (wpAny_standAt ?_)
  refine seg_bind_wrap (wpAny_holding ?_)
  rw [g.over]
  refine wpAny_mono h1 (fun itv s2 h2 => ?_) fun x s' hx => k.exc n s₀ x s' hx
  obtain ⟨it, fp, tn, Jt, H2, e, I2, T, st2, f2, W, ⟨m0, w0⟩, turn⟩ := h2
  subst e
  refine seg_call fun p => ?_
  have gl := fun (kk : Result → Sem PySem.Fin) => gc_loop (k := kk) (c' := .forLoop tg (.ref it) body [] X.env) (l := lv []) (kp := []) (p := p) g rfl rfl
  have notS : ∀ b ∈ fp, b ≠ S := fun b hb z => (f2 b hb).2.2.2.2.2 (S, lstObj acc cc) (List.mem_append_right _ List.mem_cons_self) z.symm
  have stat : ∀ {acc' : Array Value} {c' : Nat} {H' : Hp}, (∀ b ∈ fp, H' b = none) → ∀ b ∈ fp, FpOk X ((S, lstObj acc' c') :: ip) H' b := fun {acc' c' H'} hn b hb => by
    obtain ⟨_, a1, a2, a3, a4, a5⟩ := f2 b hb
    refine ⟨hn b hb, a1, a2, a3, a4, fun q hq => ?_⟩
    rcases List.mem_append.mp hq with z | z
    · exact a5 q (List.mem_append_left _ z)
    · rcases List.mem_cons.mp z with z | z
      · rw [z]; exact fun y => notS b hb y.symm
      · exact a5 q (List.mem_append_right _ (List.mem_cons_of_mem _ z))
  have loop : ∀ (m i n : Nat) (ys : List V) (s₀ s : Shared) (σ : St) (H : Hp), n + ys.length = sizeLine → W i m ys σ H → GI X S ip ys σ H s → tn i s.heap → (∀ b ∈ fp, H b = none) →
      Seg (model X.prog X.w) A R (GY X S) n s₀ (.forLoop tg (.ref it) body [] X.env) ((model X.prog X.w).den (.forLoop tg (.ref it) body [] X.env))
        (.ret (fun r => ((match r with | .ok f => (.pure f : Sem Flow) | .error e => .raise e).onRaise (cameBack X.env)).wrap K J gd lv) none (gd false) (lv []) c p [] :: fs) s := by
    intro m
    induction m using Nat.strongRecOn with
    | ind m ih =>
      intro i n ys s₀ s σ H hn w hI st fr
      have ee : ∀ (n : Nat) (s₀ : Shared) (x : Value) (s' : Shared), X.xe x s' → Seg (model X.prog X.w) A R (GY X S) n s₀ (.forLoop tg (.ref it) body [] X.env)
          ((do noteFrame x X.env; theTreesLotGoes x : Sem Unit).bind (fun _ => (Sem.raise x : Sem PySem.Fin)))
          (.ret (fun r => ((match r with | .ok f => (.pure f : Sem Flow) | .error e => .raise e).onRaise (cameBack X.env)).wrap K J gd lv) none (gd false) (lv []) c p [] :: fs) s' := fun n s₀ x s' hx => by
        rw [Sem.bind_eq_wrap]
        refine seg_wrap ?_
        rw [(gl _).over]
        refine wpAny_bind (wpAny_mono (hp x s' hx) (fun _ s'' hcb => wpAny_theTreesLotGoes ?_) fun y s'' hcb => ?_)
        · exact seg_leaf (.error x) (seg_cameBack g k hcb)
        · exact seg_leaf (.error y) (seg_cameBack g k hcb)
      obtain ⟨acc', c', r', I'⟩ := hI
      show Seg _ A R _ n s₀ _ ((forTurn tg (.ref it) body [] X.env).onRaise (fun x => do noteFrame x X.env; theTreesLotGoes x)) _ s
      unfold forTurn
      rw [Sem.onRaise_eq_wrap]
      refine seg_bind_wrap (wpAny_standAt ?_)
      refine seg_bind_wrap ?_
      rw [(gl _).over]
      rcases turn i m ys σ H w with ⟨stop, qn⟩ | ⟨go, N, hN, step⟩
      · refine wpAny_onRaise (wpAny_mono (T.done X rfl rfl rfl hcm i _ s σ H X.xe I' (stat fr) st stop) (fun r s4 hr => ?_) fun x s' hx => wpAny_standAt (ee n s₀ x s' hx))
        obtain ⟨hr, I4⟩ := hr
        subst hr
        refine seg_again rfl ?_
        exact seg_leaf (.ok .next) (k.ok n ys s₀ s4 .next hn ⟨σ, H, ⟨acc', c', r', I4⟩, qn⟩)
      · refine wpAny_onRaise (wpAny_mono (T.item X rfl rfl rfl hcm i _ s σ H X.xe I' (stat fr) st go) (fun r s4 hr => ?_) fun x s' hx => wpAny_standAt (ee n s₀ x s' hx))
        obtain ⟨u, hr, h4⟩ := hr
        subst hr
        refine seg_bind_wrap ?_
        rw [(gl _).over]
        refine wpAny_mono h4 (fun _ s5 h5 => ?_) fun x s' hx => ee n s₀ x s' hx
        obtain ⟨x, H5, I5, r5, y5, st5, fr5⟩ := h5
        have I5' := I5.pinned (stat fr5) (T.obj _ _ st5)
        refine seg_bind_wrap ?_
        rw [(gl _).over]
        refine wpAny_mono (hg.run _ s5 σ H5 x u _ I5' r5 (step x H5 y5)) (fun _ s6 h6 => ?_) fun x s' hx => ee n s₀ x s' hx
        obtain ⟨σ6, H6, I6, q6⟩ := h6
        refine segw_bind ?_
        have un : ∀ {ys : List V} {σ : St} {H : Hp} {s : Shared}, GI X S (ip ++ pinsAt fp s5.heap) ys σ H s → GI X S ip ys σ H s := fun ⟨a, b, c, J⟩ => ⟨a, b, c, Inv.unpinned (pins := (S, lstObj a b) :: ip) J⟩
        have kp : ∀ {ys : List V} {σ : St} {H : Hp} {s : Shared}, GI X S (ip ++ pinsAt fp s5.heap) ys σ H s → tn (i + 1) s.heap ∧ ∀ b ∈ fp, H b = none := fun ⟨a, b, c, J⟩ => by
          refine ⟨T.keep _ _ _ st5 fun b hb o e => (J.pin (b, o) (List.mem_append_right _ (List.mem_cons_of_mem _ (List.mem_append_right _ (mem_pinsAt hb e))))).1, fun b hb => ?_⟩
          obtain ⟨o, e, d⟩ := T.obj _ _ st5 b hb
          exact (J.pin (b, o) (List.mem_append_right _ (List.mem_cons_of_mem _ (List.mem_append_right _ (mem_pinsAt hb e))))).2.1
        refine hb.run A S (ip ++ pinsAt fp s5.heap) R n ys s₀ _ _ _ _ id id s6 σ6 H6 { D with nx := N, ct := N, bk := D.nx } ⟨g.pn, fun q hq => ?_, g.apart, (gl _).over, (gl _).split, (gl _).guard, rfl⟩ hn
          ⟨fun n' ys' s₀' s3 f hn' hs => ?_, fun n' s₀' x s3 hx => ee n' s₀' x s3 hx⟩ ⟨acc', c', r', I6⟩ q6
        · rcases List.mem_append.mp hq with z | z
          · exact g.ip q z
          · exact notS _ (of_pinsAt z).1
        · cases f with
          | next =>
            obtain ⟨σ3, H3, I3, n3⟩ := hs
            obtain ⟨m', hm, w3⟩ := hN ys' σ3 H3 n3
            exact seg_again rfl (ih m' hm (i + 1) n' ys' s₀' s3 σ3 H3 hn' w3 (un I3) (kp I3).1 (kp I3).2)
          | cont =>
            obtain ⟨σ3, H3, I3, n3⟩ := hs
            obtain ⟨m', hm, w3⟩ := hN ys' σ3 H3 n3
            exact seg_again rfl (ih m' hm (i + 1) n' ys' s₀' s3 σ3 H3 hn' w3 (un I3) (kp I3).1 (kp I3).2)
          | brk =>
            obtain ⟨σ3, H3, I3, q3⟩ := hs
            exact seg_leaf (.ok .next) (k.ok n' ys' s₀' s3 .next hn' ⟨σ3, H3, un I3, q3⟩)
          | ret v =>
            obtain ⟨v3, σ3, H3, I3, r3, q3⟩ := hs
            exact seg_leaf (.ok (.ret v)) (k.ok n' ys' s₀' s3 (.ret v) hn' ⟨v3, σ3, H3, un I3, r3, q3⟩)
  exact loop m0 0 n ys s₀ s2 σ H2 hn w0 ⟨acc, cc, r, I2⟩ st2 fun b hb => (f2 b hb).1
end
end L2

set_option Elab.async false
set_option linter.all false
set_option maxRecDepth 100000
set_option maxHeartbeats 4000000
/-! generators that hand out ints, over the layer of trees -/
namespace A
open PySem PySem.Spec PyProof.Rows L2
structure EndsG where
  nx : List Int → Ev → Sto → Prop
  bk : List Int → Ev → Sto → Prop
  ct : List Int → Ev → Sto → Prop
abbrev AGn := EndsG → List Int → Ev → Sto → Prop
structure OkG (n : Cn) (w : Wd) (N : Nat) (H : Hp) (D' : EndsG) (De : GEnds) : Prop where
  nx : ∀ ns w' ρ' S' σ' H', Stp w N H w' S'.length H' → Sta n.c n.g w' ρ' S' σ' H' → D'.nx ns ρ' S' → De.nx (ns.map V.int) σ' H'
  bk : ∀ ns w' ρ' S' σ' H', Stp w N H w' S'.length H' → Sta n.c n.g w' ρ' S' σ' H' → D'.bk ns ρ' S' → De.bk (ns.map V.int) σ' H'
  ct : ∀ ns w' ρ' S' σ' H', Stp w N H w' S'.length H' → Sta n.c n.g w' ρ' S' σ' H' → D'.ct ns ρ' S' → De.ct (ns.map V.int) σ' H'
theorem OkG.step {n : Cn} {w w1 : Wd} {N N1 : Nat} {H H1 : Hp} {D' : EndsG} {De : GEnds} (k : OkG n w N H D' De) (s : Stp w N H w1 N1 H1) : OkG n w1 N1 H1 D' De :=
  ⟨fun ns w' ρ' S' σ' H' s' => k.nx ns w' ρ' S' σ' H' (s.trans s'), fun ns w' ρ' S' σ' H' s' => k.bk ns w' ρ' S' σ' H' (s.trans s'), fun ns w' ρ' S' σ' H' s' => k.ct ns w' ρ' S' σ' H' (s.trans s')⟩
def upG (n : Cn) (t : AGn) : TGn := fun De ys σ H => ∃ w ρ S D' ns, ys = ns.map V.int ∧ Sta n.c n.g w ρ S σ H ∧ t D' ns ρ S ∧ OkG n w S.length H D' De
abbrev JG (X : Cx) (n : Cn) (st : Stmt) (t : AGn) : Prop := GS X st (upG n t)
abbrev JGs (X : Cx) (n : Cn) (st : List Stmt) (t : AGn) : Prop := GSs X st (upG n t)
section
variable {X : Cx} {n : Cn} {st : Stmt} {rest : List Stmt} {t u : AGn} {e : Expr} {ta : AM D} {tc : AM Bool} {pos : Pos}
/-- a statement that hands out nothing -/
def gPlain (t : AS) : AGn := fun De ns ρ S => t ⟨De.nx ns, fun _ _ => False, De.bk ns, De.ct ns, fun _ _ _ => False⟩ ρ S
theorem plainG {t : AS} {De : GEnds} {ys : List V} {σ : L2.St} {H : Hp} (h : upG n (gPlain t) De ys σ H) : tPlain (upS n t) De ys σ H := by
  obtain ⟨w, ρ, S, D', ns, rfl, st, h, k⟩ := h
  exact ⟨w, ρ, S, _, st, h, ⟨k.nx ns, fun _ _ _ _ _ _ _ _ z => z.elim, k.bk ns, k.ct ns, fun _ _ _ _ _ _ _ _ _ _ _ z => z.elim⟩⟩
theorem jg_ps {t : AS} (h : JS X n st t) : JG X n st (gPlain t) := GS.imp (gs_ps h) fun _ _ _ _ => plainG
theorem jgs_ps {t : AS} (h : JSs X n rest t) : JGs X n rest (gPlain t) := GSs.imp (gss_pss h) fun _ _ _ _ => plainG
def gNil : AGn := fun De ns ρ S => De.nx ns ρ S
theorem jg_nil : JGs X n [] gNil := GSs.imp gss_nil fun D ys σ H ⟨w, ρ, S, D', ns, e, st, h, k⟩ => by
  subst e
  exact k.nx ns w ρ S σ H Stp.refl st h
def gSeq (t u : AGn) : AGn := fun De ns ρ S => t { De with nx := u De } ns ρ S
theorem jg_cons (h1 : JG X n st t) (h2 : JGs X n rest u) : JGs X n (st :: rest) (gSeq t u) := GSs.imp (gss_cons h1 h2) fun De ys σ H ⟨w, ρ, S, D', ns, e, st, h, k⟩ =>
  ⟨w, ρ, S, { D' with nx := u D' }, ns, e, st, h, ⟨fun ns1 w1 ρ1 S1 σ1 H1 s1 st1 q => ⟨w1, ρ1, S1, D', ns1, rfl, st1, q, k.step s1⟩, k.bk, k.ct⟩⟩
theorem jg_one (h1 : JG X n st t) : JGs X n [st] (gSeq t gNil) := jg_cons h1 jg_nil
def gBind {α : Type} (t : AM α) (f : α → AGn) : AGn := fun De ns ρ S => t ρ S (fun a S1 => f a De ns ρ S1) fun _ _ => False
theorem upG.bind {α β : Type} {r : Wd → Nat → Hp → α → β → Prop} {t : AM α} {f : α → AGn} {De : GEnds} {ys : List V} {σ : L2.St} {H : Hp} (h : upG n (gBind t f) De ys σ H) :
    up n.c n.g n.W r t σ H (fun b H1 => ∃ w1 ρ S1 D' ns a, ys = ns.map V.int ∧ Sta n.c n.g w1 ρ S1 σ H1 ∧ r w1 S1.length H1 a b ∧ f a D' ns ρ S1 ∧ OkG n w1 S1.length H1 D' De) := by
  obtain ⟨w, ρ, S, D', ns, e, st, ht, k⟩ := h
  exact ⟨w, ρ, S, st, _, _, ht, fun w1 S1 H1 a b s1 f1 r1 hf => ⟨w1, ρ, S1, D', ns, a, e, st.step s1 f1, r1, hf, k.step s1⟩, fun w1 S1 H1 x cls d s1 f1 rx hx => hx.elim⟩
def gIf (c : AM Bool) (t u : AGn) : AGn := gBind c fun b De ns ρ S => if b = true then t De ns ρ S else u De ns ρ S
theorem jg_if {c : Expr} {a b : List Stmt} (hc : JT X n c tc) (ha : JGs X n a t) (hb : JGs X n b u) : JG X n (.If c a b pos) (gIf tc t u) := GS.imp (gs_if hc ha hb) fun De ys σ H h => by
  refine (upG.bind (r := relB) h).mono ?_
  rintro v H1 ⟨w1, ρ, S1, D', ns, d, e, st1, rfl, hf, k⟩
  cases d with
  | true => rw [if_pos rfl] at hf ⊢; exact ⟨w1, ρ, S1, D', ns, e, st1, hf, k⟩
  | false => rw [if_neg Bool.false_ne_true] at hf ⊢; exact ⟨w1, ρ, S1, D', ns, e, st1, hf, k⟩
def gYield (ta : AM D) : AGn := fun De ns ρ S => ns.length < big ∧ gBind ta (fun d De ns ρ S => opt (asI d) fun i => De.nx (ns ++ [i]) ρ S) De ns ρ S
theorem jg_yield {yp : Pos} (he : JE X n e ta) (hco : X.env.scope.isCoroutine = false := by rfl) (hi : interactive X.env = false := by rfl) : JG X n (.Expr (.Yield (some e) yp) pos) (gYield ta) := GS.imp (gs_yield he hco hi) fun De ys σ H h => by
  have h0 : ys.length < big := by
    obtain ⟨w, ρ, S, D', ns, rfl, st, h, k⟩ := h
    rw [List.length_map]
    exact h.1
  refine ⟨big_lt h0, ?_⟩
  have h2 : upG n (gBind ta (fun d De ns ρ S => opt (asI d) fun i => De.nx (ns ++ [i]) ρ S)) De ys σ H := by
    obtain ⟨w, ρ, S, D', ns, e, st, h, k⟩ := h
    exact ⟨w, ρ, S, D', ns, e, st, h.2, k⟩
  refine (upG.bind (r := Rel n.c) h2).mono ?_
  rintro v H1 ⟨w1, ρ, S1, D', ns, d, e, st1, r1, hf, k⟩
  subst e
  obtain ⟨i, e1, hf⟩ := opt_some hf
  obtain ⟨_, rfl⟩ := asI_rel e1 r1
  have := k.nx (ns ++ [i]) w1 ρ S1 σ H1 Stp.refl st1 hf
  rw [List.map_append] at this
  exact this
def forG (g : AG) (tb : AGn) (De : EndsG) : List D → List Int → Ev → Sto → Prop
  | [] => De.nx
  | x :: r => fun ns ρ S => g x ρ fun ρ1 => tb { De with nx := forG g tb De r, ct := forG g tb De r, bk := De.nx } ns ρ1 S
def gFor (ti : AM (List D)) (g : AG) (tb : AGn) : AGn := gBind ti fun xs De ns ρ S => forG g tb De xs ns ρ S
theorem forGB {J : It} {m : Nat} {G : Hp → Prop} {Y : Nat → Hp → V → Hp → Prop} (w : Walk J m G Y) {g : TG} {tb : TGn} {De : GEnds} {ys : List V} {σ : L2.St} {H : Hp} (Pv : Nat → List V → L2.St → Hp → Prop) (h0 : Pv 0 ys σ H) (hG : ∀ i ys σ H, i ≤ m → Pv i ys σ H → G H)
    (hs : ∀ i x ys σ H H', i < m → Pv i ys σ H → Y i H x H' → g x σ H' fun σ2 H2 => tb { De with nx := Pv (i + 1), ct := Pv (i + 1), bk := De.nx } ys σ2 H2) (hd : ∀ ys σ H, Pv m ys σ H → De.nx ys σ H) :
    ∃ W : Nat → Nat → List V → L2.St → Hp → Prop, (∃ m, W 0 m ys σ H) ∧ ∀ i m ys σ H, W i m ys σ H →
      (J.stop i H ∧ De.nx ys σ H) ∨ (J.go i H ∧ ∃ N : List V → L2.St → Hp → Prop, (∀ ys' σ' H', N ys' σ' H' → ∃ m', m' < m ∧ W (i + 1) m' ys' σ' H') ∧ ∀ x H', J.yld i H x H' → g x σ H' fun σ2 H2 => tb { De with nx := N, ct := N, bk := De.nx } ys σ2 H2) := by
  refine ⟨fun i k ys σ H => k = m - i ∧ i ≤ m ∧ Pv i ys σ H, ⟨m, by simp, Nat.zero_le _, h0⟩, ?_⟩
  rintro i k ys σ H ⟨rfl, hi, p⟩
  by_cases hlt : i < m
  · exact .inr ⟨w.goes i H hlt (hG i ys σ H hi p), Pv (i + 1), fun ys' σ' H' p' => ⟨m - (i + 1), by omega, rfl, hlt, p'⟩, fun x H' y => hs i x ys σ H H' hlt p (w.yields i H x H' hlt (hG i ys σ H hi p) y)⟩
  · have e : i = m := by omega
    subst e
    exact .inl ⟨w.stops H (hG i ys σ H hi p), hd ys σ H p⟩
theorem jg_for {tg iter : Expr} {ti : AM (List D)} {g : TG} {gD : AG} {vs : List Nat} {body : List Stmt} {tb : AGn} (gl : GL n.c g gD vs) (hp : PassesOwn (model X.prog X.w) X.A X.env X.xe) (hc : X.calm = true) (hi : JI X n tg iter ti) (hg : PG X tg g) (hb : JGs X n body tb)
    (hs : ∀ x, foldedSetIterable iter X.env x = pure x := by intro _; rfl) : JG X n (.For tg iter body [] pos) (gFor ti gD tb) := GS.imp (gs_for hp hc hi hg hb hs) fun De ys σ H h => by
  obtain ⟨w, ρ, S, D', ns, rfl, st, h, k⟩ := h
  refine ⟨w, ρ, S, st, _, _, h, fun w1 S1 H1 xs s1 f1 hx J wk => ?_, fun w1 S1 H1 x cls d s1 f1 rx hx => hx.elim⟩
  obtain ⟨G, Y, wlk, hG, hY⟩ := wk
  refine forGB wlk (fun i ys σ2 H2 => ∃ w2 ρ2 S2 ns2, ys = ns2.map V.int ∧ Stp w1 S1.length H1 w2 S2.length H2 ∧ Sta n.c n.g w2 ρ2 S2 σ2 H2 ∧ forG gD tb D' (xs.drop i) ns2 ρ2 S2) ⟨w1, ρ, S1, ns, rfl, Stp.refl, st.step s1 f1, hx⟩ ?_ ?_ ?_
  · rintro i ys σ2 H2 hi ⟨w2, ρ2, S2, ns2, _, s2, st2, _⟩
    exact hG w2 _ H2 s2
  · rintro i x ys σ2 H2 H3 hi ⟨w2, ρ2, S2, ns2, rfl, s2, st2, hx⟩ y
    obtain ⟨sm, d, hd', rd⟩ := hY w2 _ H2 i x H3 s2 hi y
    have sH : Stp w2 S2.length H2 w2 S2.length H3 := Stp.same sm
    have hdr : xs.drop i = d :: xs.drop (i + 1) := by
      rw [List.drop_eq_getElem?_toList_append, hd']; rfl
    rw [hdr] at hx
    have st3 := st2.step sH (st2.wf.same sm)
    have s3 : Stp w1 S1.length H1 w2 S2.length H3 := s2.trans sH
    refine gl n.g w2 ρ2 S2 σ2 H3 d x _ _ st3 rd hx fun ρ4 σ4 st4 _ hx => ⟨w2, ρ4, S2, _, ns2, rfl, st4, hx, ?_⟩
    have k3 := k.step (s1.trans s3)
    have nx : ∀ ns' w' ρ' S' σ' H', Stp w2 S2.length H3 w' S'.length H' → Sta n.c n.g w' ρ' S' σ' H' → forG gD tb D' (xs.drop (i + 1)) ns' ρ' S' → ∃ w2 ρ2 S2 ns2, ns'.map V.int = ns2.map V.int ∧ Stp w1 S1.length H1 w2 S2.length H' ∧ Sta n.c n.g w2 ρ2 S2 σ' H' ∧ forG gD tb D' (xs.drop (i + 1)) ns2 ρ2 S2 :=
      fun ns' w' ρ' S' σ' H' s' st' q => ⟨w', ρ', S', ns', rfl, s3.trans s', st', q⟩
    exact ⟨nx, k3.nx, nx⟩
  · rintro ys σ2 H2 ⟨w2, ρ2, S2, ns2, rfl, s2, st2, hx⟩
    rw [List.drop_length] at hx
    exact k.nx ns2 w2 ρ2 S2 σ2 H2 (s1.trans s2) st2 hx
end
/-! ### a generator method, list(o.m(..)) -/
abbrev GSp := List D → Sto → (List Int → Sto → Prop) → Prop
def upSpG (c : Cg) (sp : GSp) : SpG := fun vs H Q E => ∃ (w : Wd) (S : Sto) (ds : List D) (Q' : List Int → Sto → Prop), Wf c w S H ∧ RelL c w S.length H ds vs ∧ sp ds S Q' ∧
  ∀ w' S' H' ns, Stp w S.length H w' S'.length H' → Wf c w' S' H' → Q' ns S' → Q (ns.map V.int) H'
/-- the generator method m of the class at C -/
structure MtdG (P : Program) (w : World) (K : PySem.W.Frag) (mg : Str → Option Value) (base : Heap) (k : Nat) (C : Addr) (m : Str) (sp : SpG) : Prop where
  ex : ∃ f fd ps, Cls K C ∧ Meth K C m f ∧ GFn P w K mg base k f fd ps sp ∧ Binds K fd ps []
section
variable {P : Program} {w : World} {K : PySem.W.Frag} {cA : Str → Addr} {mg : Str → Option Value} {base : Heap}
/-- a generator def as the top has written it -/
theorem defG_ok {x qual : Str} {st : Stmt} {f : Addr} {fd : FuncData} {N ps : List Str} {k : Nat} {sp : GSp} {t : AGn} (F : FunG K x qual st f fd) (Sc : GScope N ps (defScope st))
    (hb : ∀ (cdv : Value) (A : Around) (outer : List Env) (s : Shared) (H : Hp) (E : XK) (pn : List (Addr × Obj)), Room k (A.deeper (envOfC qual (defScope st) s.heap.objs.size f cdv)) →
      JGs (gcxOf P w K mg base N qual (defScope st) f cdv A outer s H E pn) ⟨⟨K, cA⟩, none, fun _ _ _ _ => False⟩ (defBody st) t)
    (hl : ∀ ds S Q, sp ds S Q → ds.length = ps.length) (hv : ∀ ds S Q, sp ds S Q → t ⟨fun ns _ S => Q ns S, fun _ _ _ => False, fun _ _ _ => False⟩ [] (startD N ds) S) : GFn P w K mg base (k + 1) f fd ps (upSpG ⟨K, cA⟩ sp) := by
  obtain ⟨oc, od, dV, kV, doc, pm, an, cdv, ct, osl, rfl, lk, hcd⟩ := F.ex
  refine gfn_of lk hcd Sc (fun vs H Q E h => ?_) (fun A outer s H vs Q E pn hr h => ?_)
  · obtain ⟨w, S, ds, Q', f, r, ht, _⟩ := h
    rw [← r.len]; exact hl _ _ _ ht
  · obtain ⟨w, S, ds, Q', f, r, ht, hq⟩ := h
    exact ⟨_, hb cdv A outer s H E pn hr, w, _, S, _, [], rfl, ⟨f, relE_start r, trivial⟩, hv ds S Q' ht,
      ⟨fun ns w' ρ' S' σ' H' s' st' q => hq w' S' H' ns s' st'.wf q, fun _ _ _ _ _ _ _ _ z => z.elim, fun _ _ _ _ _ _ _ _ z => z.elim⟩⟩
/-- nothing is raised -/
theorem pass_no {X : Cx} {CX : CXT} (h : ∀ outer H s e s', CX outer H s (fun _ _ _ => False) e s' → False) : ∀ σ : L2.St, PassesAt CX X σ (WE (fun _ _ _ _ => False) σ) := fun σ pins H s e s' I c => (h _ _ _ _ _ c).elim
end
section
variable {X : Cx} {n : Cn} {k r : Nat} {C m nm : Str} {sp : GSp} {ta : AM D} {t : AM (List D)} {o e : Expr} {es : List Expr} {p apos pos' pos : Pos}
def aLG (C m : Str) (sp : GSp) (ta : AM D) (t : AM (List D)) : AM D := aBind ta fun d => fun ρ S Q E => opt (insOf S d C) fun fs => fs.lookup m = none ∧ aBind t (fun ds => fun _ S Q _ => sp (d :: ds) S fun ns S' => Q (.lst (ns.map D.int)) S') ρ S Q E
theorem relInts {c : Cg} {w : Wd} {N : Nat} {H : Hp} : ∀ (ns : List Int), RelL c w N H (ns.map D.int) (ns.map V.int)
  | [] => .nil
  | i :: ns => .cons (.int i) (relInts ns)
theorem j_listG {pl : Sem Bool} (c : MtdG X.prog X.w X.K X.mg X.base k (n.c.cA C) m (upSpG n.c sp)) (hr : Room r X.A) (hk : k + 3 ≤ r) (he : JE X n o ta) (ha : JA X n (e :: es) t)
    (hg : Gl X nm) (hmg : X.mg nm = none) (hv : bootBuiltins nm = some (.type "list"))
    (hst : starEach (e :: es) X.env = (false, eval e X.env) :: starEach es X.env := by rfl) (hpl : (backTo pos' (starEach es X.env)).any (·.1) = false := by rfl)
    (ht : eval (.Call (.Attribute o m apos) (e :: es) [] pos') X.env = (do
      let ov ← eval o X.env
      standAt apos.atName
      let (f, first) ← holding [ov] (getMethod ov m pl)
      callWith pos' f first (backTo pos' (starEach (e :: es) X.env)) (backToKw pos' (keywordEach [] X.env))) := by rfl)
    (hnm : nm ≠ "__name__" := by decide) (hdb : (nm == ("__debug__" : Str)) = false := by decide)
    (hs1 : starEach [.Call (.Attribute o m apos) (e :: es) [] pos'] X.env = (false, eval (.Call (.Attribute o m apos) (e :: es) [] pos') X.env) :: starEach [] X.env := by rfl) :
    JE X n (.Call (.Name nm p) [.Call (.Attribute o m apos) (e :: es) [] pos'] [] pos) (aLG C m sp ta t) := by
  obtain ⟨f, fd, ps, cl, hm, F, hb⟩ := c.ex
  have G := pgen_meth (dvs := []) (ds := []) (E := fun _ _ _ => False) he cl hm F (hr.mono (by omega)) hb .nil ha hst hpl ht
  refine PE.imp (pe_listG G (fun pins σ H s e s' I c => ?_) (fun cls d H z => z.elim) (hr.mono hk) hg hmg hv hnm hdb hs1) fun σ H Q h => ?_
  · obtain ⟨_, _, _, _, _, _, _, _, _, _, _, _, z⟩ := c
    exact z.elim
  · obtain ⟨w, ρ, S, st, h⟩ := h
    refine (upW.bind st h).mono ?_
    rintro v H1 ⟨w1, S1, d, st1, _, r1, Q', E', ht, hq, he⟩
    obtain ⟨fs, e1, hl, ht⟩ := opt_some ht
    obtain ⟨a, dx, fs', rfl, ha, hn, hs⟩ := insOf_rel st1.wf e1 r1
    refine ⟨a, dx, fs', rfl, ha, (lookup_rel hn hs).1 hl, ?_⟩
    have h1 : upW n.c n.W (Rel n.c) (aBind t (fun ds => fun _ S Q _ => sp (d :: ds) S fun ns S' => Q (.lst (ns.map D.int)) S')) w1 ρ S1 σ H1 Q := ⟨Q', E', ht, hq, he⟩
    refine (upW.bind st1 h1).mono ?_
    rintro vs H2 ⟨w2, S2, ds, st2, s2, r2, Q2, E2, ht2, hq2, _⟩
    refine ⟨w2, S2, d :: ds, _, st2.wf, by simpa using RelL.cons (r1.stp s2) r2, ht2, fun w3 S3 H3 ns s3 f3 q p hp => ?_⟩
    exact hq2 w3 S3 _ (.lst (ns.map D.int)) (.ref p) (s3.trans (Stp.alloc hp _)) (f3.alloc hp _) (.lst upd_same (f3.fresh hp) (relInts ns)) q
end
end A

set_option Elab.async false
set_option linter.all false
set_option maxRecDepth 100000
set_option maxHeartbeats 4000000
/-! static methods called on their class; classes that are called with starred arguments -/
namespace L2
open PySem PySem.Spec PyProof.Rows
/-- C.m is a staticmethod, its def at f -/
structure SMet (K : PySem.W.Frag) (C : Addr) (m : Str) (f : Addr) : Prop where
  rd : ClX.CRead K C (.type "type")
  at_ : ∃ p, PySem.W.findCls K (.ref C) (.type "type") m = some (.get (.builtin "staticmethod.__get__") (.ref p) .none (.ref C)) ∧ ∃ rest, PySem.W.recIn K p "staticmethod" = some (.ref f :: rest)
  kp : PySem.W.keepIn K (.ref f) = true
structure StM (P : Program) (w : World) (K : PySem.W.Frag) (mg : Str → Option Value) (base : Heap) (k : Nat) (C : Addr) (m : Str) (sp : Sp) : Prop where
  ex : ∃ f, SMet K C m f ∧ FnR P w K mg base (L2N.CX P w) k f sp
section
variable {X : Cx} {k n : Nat} {C : Addr} {sp : Sp} {E : St → XK} {x m : Str} {p p2 pos apos : Pos} {e o : Expr} {es : List Expr} {ta : TE} {t : TA}
theorem getsm_ok {pins : List (Addr × Obj)} {σ : L2.St} {H : Hp} {s : Shared} {f : Addr} {A : Around} {E : Value → Shared → Prop} {pl : Sem Bool} {Q : Value × List Value → Shared → Prop} (I : Inv X pins σ H s) (c : SMet X.K C m f)
    (h : ∀ s', Inv X pins σ H s' → Q (.ref f, []) s') : wpAny (model X.prog X.w) A (getMethod (.ref C) m pl) Q E s := by
  obtain ⟨p, h1, rest, h2⟩ := c.at_
  exact PySem.W.method_cls I.kIn c.rd.ga (PySem.W.cls_bind I.kIn c.rd.rd h1 (wpAny_call (PySem.W.sm_get (s := { s with toks := s.toks + 1 }) I.kIn h2 (PySem.W.handed_on rfl (h _ (I.tok _))))))
def tSm (C : Addr) (sp : Sp) (E : St → XK) (ta : TE) (t : TA) : TE := fun σ H Q => ta σ H fun x H1 => x = .ref C ∧ t σ H1 fun vs H2 => sp vs H2 Q (E σ)
theorem pe_sm {pl : Sem Bool} (c : StM X.prog X.w X.K X.mg X.base k C m sp) (hr : Room n X.A) (hk : k ≤ n) (hx : ∀ σ, PassesAt (L2N.CX X.prog X.w) X σ (E σ)) (he : PE X o ta) (ha : PA X (e :: es) t)
    (hst : starEach (e :: es) X.env = (false, eval e X.env) :: starEach es X.env := by rfl) (hpl : (backTo pos (starEach es X.env)).any (·.1) = false := by rfl)
    (ht : eval (.Call (.Attribute o m apos) (e :: es) [] pos) X.env = (do
      let ov ← eval o X.env
      standAt apos.atName
      let (f, first) ← holding [ov] (getMethod ov m pl)
      callWith pos f first (backTo pos (starEach (e :: es) X.env)) (backToKw pos (keywordEach [] X.env))) := by rfl) :
    PE X (.Call (.Attribute o m apos) (e :: es) [] pos) (tSm C sp E ta t) := by
  obtain ⟨f, cm, F⟩ := c.ex
  refine ⟨fun pins s σ H Q I h => PySem.W.methodCall_KW (pl := pl) (thn (he.run pins s σ H _ I h) fun u s1 ⟨x, H1, I1, rx, ex, q⟩ => ?_) ht⟩
  subst ex
  cases (show u = Value.ref C from rx)
  refine getsm_ok I1 cm fun s' I' => PySem.W.callWith_K (first := []) (h₀ := X.base) I.ok.mod.kin cm.kp (thn (ha.run pos pins s' σ H1 _ I' q) fun us s2 ⟨vs, H2, I2, r, q2⟩ => ⟨I2.kIn, ?_⟩) hst hpl
  exact run_raw F (hr.mono hk) I2.env0 (hx σ) I2 r q2
theorem pe_sm0 {pl : Sem Bool} (c : StM X.prog X.w X.K X.mg X.base k C m sp) (hr : Room n X.A) (hk : k ≤ n) (hx : ∀ σ, PassesAt (L2N.CX X.prog X.w) X σ (E σ)) (he : PE X o ta)
    (ht : eval (.Call (.Attribute o m apos) [] [] pos) X.env = (do
      let ov ← eval o X.env
      standAt apos.atName
      let (f, first) ← holding [ov] (getMethod ov m pl)
      callWith pos f first (backTo pos (starEach [] X.env)) (backToKw pos (keywordEach [] X.env))) := by rfl) :
    PE X (.Call (.Attribute o m apos) [] [] pos) (tSm C sp E ta tNil) := by
  obtain ⟨f, cm, F⟩ := c.ex
  refine ⟨fun pins s σ H Q I h => PySem.W.methodCall_KW (pl := pl) (thn (he.run pins s σ H _ I h) fun u s1 ⟨x, H1, I1, rx, ex, q⟩ => ?_) ht⟩
  subst ex
  cases (show u = Value.ref C from rx)
  exact getsm_ok I1 cm fun s' I' => PySem.W.callWith_K0 (first := []) I'.kIn cm.kp (run_raw (us := []) F (hr.mono hk) I'.env0 (hx σ) I' .nil q)
/-! C(e, .., *y), C(*y) -/
theorem pe_nwS (c : Mkr X.prog X.w X.K X.mg X.base k x C sp) (hr : Room n X.A) (hk : k + 1 ≤ n) (hg : Gl X x) (hx : ∀ σ, PassesAt (L2N.CX X.prog X.w) X σ (E σ)) (ha : PA X (e :: es) t)
    (hdb : (x == ("__debug__" : Str)) = false := by decide) (he : starEach (e :: es) X.env = (false, eval e X.env) :: starEach es X.env := by rfl) (hst : (backTo pos (starEach es X.env)).any (·.1) = true := by rfl) :
    PE X (.Call (.Name x p) (e :: es) [] pos) (tMkr C sp E t) := by
  obtain ⟨f, M, hm, F⟩ := c.ex
  refine ⟨fun pins s σ H Q I h => wpAny_Call_Name_kw (ld_glob I hg hm ?_ hdb)⟩
  exact PySem.W.callWith_S2 (h₀ := X.base) I.ok.mod.kin M.kp (thn (ha.run pos pins s σ H _ I h) fun us s1 ⟨vs, H1, I1, r, q⟩ => ⟨I1.kIn, run_mkr M F (hr.mono hk) (hx σ) I1 r q⟩) he hst
def tMkrL (K : PySem.W.Frag) (C : Addr) (sp : Sp) (E : St → XK) (ta : TE) : TE := fun σ H Q => ta σ H fun y H1 => ∃ a vs, y = V.ref a ∧ (SqT K H1 a vs ∨ SqL K H1 a vs) ∧
  ∀ y dx, H1 y = none → H1 dx = none → dx ≠ y → sp (.ref y :: vs) (upd (upd H1 dx (.own y)) y (.ins C dx [])) (fun v H2 => v = .non ∧ Q (.ref y) H2) (E σ)
theorem pe_nwL (c : Mkr X.prog X.w X.K X.mg X.base k x C sp) (hr : Room n X.A) (hk : k + 1 ≤ n) (hg : Gl X x) (hx : ∀ σ, PassesAt (L2N.CX X.prog X.w) X σ (E σ)) (he : PE X e ta)
    (hdb : (x == ("__debug__" : Str)) = false := by decide) (hst : starEach [.Starred e p2] X.env = [(true, eval e X.env)] := by rfl) :
    PE X (.Call (.Name x p) [.Starred e p2] [] pos) (tMkrL X.K C sp E ta) := by
  obtain ⟨f, M, hm, F⟩ := c.ex
  refine ⟨fun pins s σ H Q I h => wpAny_Call_Name_kw (ld_glob I hg hm ?_ hdb)⟩
  refine PySem.W.callWith_S (h₀ := X.base) I.ok.mod.kin M.kp (thn (he.run pins s σ H _ I h) fun v s1 ⟨y, H1, I1, ry, a, xs, ey, hxs, q⟩ => ?_) hst
  subst ey
  obtain rfl : v = Value.ref a := ry
  exact StX.star_any I1 hxs fun us s2 I2 rv => ⟨I2.kIn, run_mkr M F (hr.mono hk) (hx σ) I2 rv q⟩
end
end L2
namespace A
open PySem PySem.Spec PyProof.Rows L2
section
variable {X : Cx} {n : Cn} {k r : Nat} {sp : ASp} {C x m : Str} {p p2 pos apos : Pos} {e o : Expr} {es : List Expr} {t : AM (List D)} {ta : AM D}
def aSm (C : Str) (sp : ASp) (ta : AM D) (t : AM (List D)) : AM D := aBind ta fun d => fun ρ S Q E => d = .cl C ∧ aCall sp t ρ S Q E
theorem up_sm {σ : L2.St} {H : Hp} {Q : VK} (h : upE n (aSm C sp ta t) σ H Q) : tSm (n.c.cA C) (upSp n.c sp) (WE n.W) (upE n ta) (upA n t) σ H Q := by
  obtain ⟨w, ρ, S, st, h⟩ := h
  refine (upW.bind st h).mono ?_
  rintro v H1 ⟨w1, S1, d, st1, _, r1, Q', E', ⟨e, ht⟩, hq, he⟩
  subst e
  cases r1
  exact ⟨rfl, up_call (n := n) ⟨w1, ρ, S1, st1, Q', E', ht, hq, he⟩⟩
theorem j_sm {pl : Sem Bool} (c : StM X.prog X.w X.K X.mg X.base k (n.c.cA C) m (upSp n.c sp)) (hr : Room r X.A) (hk : k ≤ r) (hx : ∀ σ, PassesAt (L2N.CX X.prog X.w) X σ (WE n.W σ)) (he : JE X n o ta) (ha : JA X n (e :: es) t)
    (hst : starEach (e :: es) X.env = (false, eval e X.env) :: starEach es X.env := by rfl) (hpl : (backTo pos (starEach es X.env)).any (·.1) = false := by rfl)
    (ht : eval (.Call (.Attribute o m apos) (e :: es) [] pos) X.env = (do
      let ov ← eval o X.env
      standAt apos.atName
      let (f, first) ← holding [ov] (getMethod ov m pl)
      callWith pos f first (backTo pos (starEach (e :: es) X.env)) (backToKw pos (keywordEach [] X.env))) := by rfl) :
    JE X n (.Call (.Attribute o m apos) (e :: es) [] pos) (aSm C sp ta t) := PE.imp (pe_sm c hr hk hx he ha hst hpl ht) fun _ _ _ h => up_sm h
theorem j_sm0 {pl : Sem Bool} (c : StM X.prog X.w X.K X.mg X.base k (n.c.cA C) m (upSp n.c sp)) (hr : Room r X.A) (hk : k ≤ r) (hx : ∀ σ, PassesAt (L2N.CX X.prog X.w) X σ (WE n.W σ)) (he : JE X n o ta)
    (ht : eval (.Call (.Attribute o m apos) [] [] pos) X.env = (do
      let ov ← eval o X.env
      standAt apos.atName
      let (f, first) ← holding [ov] (getMethod ov m pl)
      callWith pos f first (backTo pos (starEach [] X.env)) (backToKw pos (keywordEach [] X.env))) := by rfl) :
    JE X n (.Call (.Attribute o m apos) [] [] pos) (aSm C sp ta aNil) := PE.imp (pe_sm0 c hr hk hx he ht) fun σ H Q h => by
  refine (up_sm h).mono ?_
  rintro v H1 ⟨e1, w, ρ, S, st, h⟩
  exact ⟨e1, h.fin st.wf .nil⟩
theorem j_nwFS (c : MkF X.prog X.w X.K X.mg X.base n.c k x C sp) (hr : Room r X.A) (hk : k + 1 ≤ r) (hg : Gl X x) (hx : ∀ σ, PassesAt (L2N.CX X.prog X.w) X σ (WE n.W σ)) (ha : JA X n (e :: es) t)
    (hdb : (x == ("__debug__" : Str)) = false := by decide) (he : starEach (e :: es) X.env = (false, eval e X.env) :: starEach es X.env := by rfl) (hst : (backTo pos (starEach es X.env)).any (·.1) = true := by rfl) :
    JE X n (.Call (.Name x p) (e :: es) [] pos) (aCall sp t) := by
  obtain ⟨sp0, M, hsp⟩ := c.ex
  refine PE.imp (pe_nwS M hr hk hg hx ha hdb he hst) fun σ H Q h => ?_
  obtain ⟨w, ρ, S, st, h⟩ := h
  refine (upW.bind st h).mono ?_
  rintro vs H1 ⟨w1, S1, ds, st1, _, r1, Q', E', ht, hq, he⟩ y dx hy hdx hne
  exact mkF_go (n := n) hsp st1.wf r1 ht hq he y dx hy hdx hne
theorem j_nwFL (c : MkF X.prog X.w X.K X.mg X.base n.c k x C sp) (hr : Room r X.A) (hk : k + 1 ≤ r) (hg : Gl X x) (hx : ∀ σ, PassesAt (L2N.CX X.prog X.w) X σ (WE n.W σ)) (he : JE X n e ta) (hK : X.K = n.c.K := by rfl)
    (hdb : (x == ("__debug__" : Str)) = false := by decide) (hst : starEach [.Starred e p2] X.env = [(true, eval e X.env)] := by rfl) :
    JE X n (.Call (.Name x p) [.Starred e p2] [] pos) (aCall sp (aStar ta aNil)) := by
  obtain ⟨sp0, M, hsp⟩ := c.ex
  refine PE.imp (pe_nwL M hr hk hg hx he hdb hst) fun σ H Q h => ?_
  obtain ⟨w, ρ, S, st, Q', E', ht, hq, he⟩ := h
  have h1 : upW n.c n.W (Rel n.c) (aBind ta fun d => fun ρ S Q E => opt (sv S d) fun ys => sp (ys ++ []) S Q E) w ρ S σ H Q := ⟨Q', E', ht, hq, he⟩
  refine (upW.bind st h1).mono ?_
  rintro v H1 ⟨w1, S1, d, st1, _, r1, Q1, E1, ht1, hq1, he1⟩
  obtain ⟨ys, e1, ht1⟩ := opt_some ht1
  rw [List.append_nil] at ht1
  obtain ⟨a, vs, rfl, ha, la⟩ := sv_rel st1.wf e1 r1
  exact ⟨a, vs, rfl, by rw [hK]; exact ha.symm, fun y dx hy hdx hne => mkF_go (n := n) hsp st1.wf la ht1 hq1 he1 y dx hy hdx hne⟩
end
end A

set_option Elab.async false
set_option linter.all false
set_option maxRecDepth 100000
set_option maxHeartbeats 4000000
/-! y = [.. for x in r], r a list of ints of the row; with a test -/
namespace A
open PySem PySem.Spec PyProof.Rows L2
section
variable {X : Cx} {n : Cn} {elt tg iter : Expr} {ifs : List Expr} {scope : Scope} {own : List (Str × Nat)} {pos : Pos} {ti : AM D} {g : TG} {gD : AG} {tt : AM Bool} {te : AM D}
theorem up_lcR {σ : L2.St} {H : Hp} {Q : VK} (gl : GL n.c g gD (own.map (·.2))) (h : upE n (aLcR ti gD tt te (own.map (·.2))) σ H Q) : tLc (iSq n.c.K (upE n ti)) g (upT n.no tt) (upE n.no te) (own.map (·.2)) σ H Q := by
  obtain ⟨w, ρ, S, st, h⟩ := h
  rw [tLc_eq]
  refine (upW.bind (r := Rel n.c) st h).mono ?_
  rintro v H1 ⟨w1, S1, d, st1, s1, r1, Q', E', hf, hq, _⟩
  obtain ⟨m, e1, ns, hl, hx⟩ := opt_some hf
  obtain ⟨rfl, hm, rfl⟩ := refOf_rel e1 r1
  obtain ⟨_, _, us, hu, rl⟩ := lstAt_rel st1.wf hl
  obtain rfl := relL_ints_eq rl
  refine ⟨true, w1.i m, ns.map V.int, rfl, SqL.of hu, fun J wk => ?_⟩
  refine lc_runR gl st1 rfl (by simpa using wk) hx fun D w2 S2 H2 ys us hD s2 f2 hR hn hu hl q => ?_
  obtain ⟨w3, s3, f3, r3⟩ := lc_stay st1.wf hD s2 f2 hR hn hu hl
  exact hq w3 S2 H2 _ _ s3 f3 r3 q
theorem js_setLcR {i : Nat} {y : Str} {py spos : Pos} (hc : X.calm = true) (hN : X.N.Nodup) (hy : X.N[i]? = some y) (hyl : X.env.scope.names.lookup y = some .local)
    (hsw : swapsWith (.ListComp elt [⟨tg, iter, ifs, 0⟩] scope pos) (some (.Name y py)) spos.line X.env = pure true) (gl : GL n.c g gD (own.map (·.2))) (hi : JE X n iter ti) (ok : BlkOk X.N X.env.scope scope own)
    (hg : ∀ (s : Shared) (H : Hp) (C : Addr) (cl : List (Str × Addr)) (fp : List Addr), PG (X.blk s H scope (compEnvC scope cl C X.env) fp) tg g) (ht : ∀ (s : Shared) (H : Hp) (C : Addr) (cl : List (Str × Addr)) (fp : List Addr), PTs (X.blk s H scope (compEnvC scope cl C X.env) fp) ifs (upT n.no tt))
    (he : ∀ (s : Shared) (H : Hp) (C : Addr) (cl : List (Str × Addr)) (fp : List Addr), JE (X.blk s H scope (compEnvC scope cl C X.env) fp) n.no elt te) (hs : ∀ x, foldedSetIterable iter X.env x = pure x := by intro _; rfl) (hK : X.K = n.c.K := by rfl) :
    JS X n (.Assign [.Name y py] (.ListComp elt [⟨tg, iter, ifs, 0⟩] scope pos) spos) (sSet (aLcR ti gD tt te (own.map (·.2))) i) := PS.imp (ps_setLc hc hN hy hyl hsw (kpi_sq n.c.K hi hK) ok hg ht he hs) fun De σ H h => up_setLc (fun _ _ _ q => up_lcR gl q) h
end
/-! truth of a list or a tuple -/
def aTruS (t : AM D) : AM Bool := aBind t fun x => fun _ S Q _ => opt (sv S x) fun xs => Q (!xs.isEmpty) S
theorem jt_truS {X : Cx} {n : Cn} {e : Expr} {ta : AM D} (h : JE X n e ta) (he : ∀ whole, isTrue e X.env whole = (do let v ← whole; standAt e.pos; holding [v] (truthy v)) := by intro _; rfl) (hK : X.K = n.c.K := by rfl) : JT X n e (aTruS ta) := by
  refine PT.imp (pt_truth h he) fun σ H Q ⟨w, ρ, S, st, h⟩ => ?_
  refine (upW.bind st h).mono ?_
  rintro x H1 ⟨w1, S1, d, st1, _, r1, h1⟩
  refine h1.op fun Q' hf hq => ?_
  obtain ⟨xs, e1, hf⟩ := opt_some hf
  obtain ⟨a, vs, rfl, ha, la⟩ := sv_rel st1.wf e1 r1
  have el : (!xs.isEmpty) = !vs.isEmpty := by
    have := la.len
    cases xs <;> cases vs <;> simp_all
  refine ⟨!vs.isEmpty, ?_, hq _ S1 _ _ _ Stp.refl st1.wf el hf⟩
  rw [hK]
  exact ha.elim (fun z => .inl ⟨vs, z, rfl⟩) fun z => .inr (.inl ⟨vs, z, rfl⟩)
theorem lcR_mapF {g : AG} {tt : AM Bool} {te : AM D} {ρ : Ev} {Q : List D → Sto → Prop} {S : Sto} {m : Nat} {ys : List D} (p : D → Bool) (f : D → D) (hm : lstAt S m = some ys) {xs : List D} (hl : xs.length ≤ 1000000)
    (h : ∀ x ∈ xs, ∀ (Y : D → Sto → Prop) (F : Sto → Prop), (p x = true → Y (f x) S) → (p x = false → F S) → g x ρ fun ρ2 => tt ρ2 S (fun b S3 => if b = true then te ρ2 S3 Y (fun _ _ => False) else F S3) fun _ _ => False)
    (q : Q ((xs.filter p).map f) S) : lcR m ys g tt te ρ Q xs [] S := by
  have key : ∀ (r acc : List D), (∀ x ∈ r, x ∈ xs) → acc.length + r.length ≤ 1000000 → Q (acc ++ (r.filter p).map f) S → lcR m ys g tt te ρ Q r acc S := by
    intro r
    induction r with
    | nil => intro acc _ _ q; exact ⟨hm, by simpa using q⟩
    | cons x r ih =>
      intro acc hx hl q
      simp only [List.length_cons] at hl
      refine ⟨hm, h x (hx x (by simp)) _ _ (fun e => ?_) (fun e => ?_)⟩
      · refine ⟨Nat.lt_of_le_of_lt (show acc.length ≤ 1000000 by omega) (by decide), ih _ (fun z hz => hx z (by simp [hz])) (by simp; omega) ?_⟩
        rw [List.filter_cons, if_pos e] at q
        simpa using q
      · refine ih acc (fun z hz => hx z (by simp [hz])) (by omega) ?_
        rw [List.filter_cons, if_neg (by rw [e]; decide)] at q
        exact q
  exact key xs [] (fun _ h => h) (by simpa using hl) (by simpa using q)
end A

set_option Elab.async false
set_option linter.all false
set_option maxRecDepth 100000
set_option maxHeartbeats 4000000
/-! what is given back is frozen with the lists of the row in it -/
namespace A
open PySem PySem.Spec PyProof.Rows L2
def mapO (g : D → Option D) : List D → Option (List D)
  | [] => some []
  | x :: r => (g x).bind fun y => (mapO g r).map fun ys => y :: ys
theorem mapO_some {g : D → Option D} {h : D → D} : ∀ {xs : List D}, (∀ x ∈ xs, g x = some (h x)) → mapO g xs = some (xs.map h)
  | [], _ => rfl
  | x :: r, k => by
    show (g x).bind (fun y => (mapO g r).map fun ys => y :: ys) = _
    rw [k x (by simp), mapO_some (xs := r) fun y hy => k y (by simp [hy])]
    rfl
/-- frozen, lists within lists, k deep -/
def frzR : Nat → Sto → Nat → D → Option D
  | 0, S, N, d => frz S N d
  | k + 1, S, N, .ref n => if n < N then some (.ref n) else match S[n]? with
    | some (.lst xs) => (mapO (frzR k S N) xs).map D.lst
    | _ => none
  | _ + 1, _, N, d => if cl N d = true then some d else none
theorem mapO_rel {c : Cg} {w w' : Wd} {N N' : Nat} {H' : Hp} {g : D → Option D} (hg : ∀ d r v, g d = some r → Rel c w' N' H' d v → Rel c w N H' r v) : ∀ {xs ys : List D} {vs : List V}, mapO g xs = some ys → RelL c w' N' H' xs vs → RelL c w N H' ys vs
  | [], ys, vs, h, r => by
    cases h
    cases r
    exact .nil
  | x :: xs, ys, vs, h, r => by
    cases r with
    | cons r1 r2 =>
      simp only [mapO] at h
      cases e1 : g x with
      | none => rw [e1] at h; cases h
      | some y =>
        cases e2 : mapO g xs with
        | none => rw [e1, e2] at h; cases h
        | some zs =>
          rw [e1, e2] at h
          cases h
          exact .cons (hg _ _ _ e1 r1) (mapO_rel hg e2 r2)
theorem frzR_rel {c : Cg} {w w' : Wd} {S S' : Sto} {H H' : Hp} (f : Wf c w S H) (s : Stp w S.length H w' S'.length H') (f' : Wf c w' S' H') : ∀ (k : Nat) {d r : D} {v : V}, frzR k S' S.length d = some r → Rel c w' S'.length H' d v → Rel c w S.length H' r v
  | 0, d, r, v, h, rd => frz_rel f s f' h rd
  | k + 1, d, r, v, h, rd => by
    have gen : (if cl S.length d = true then some d else none) = some r → Rel c w S.length H' r v := fun h => by
      split at h
      · rename_i k
        cases h
        exact rd.cut s.up s.ids k
      · cases h
    cases d with
    | ref n =>
      simp only [frzR] at h
      split at h
      · rename_i hn
        cases h
        exact rd.cut s.up s.ids (by simpa [cl] using hn)
      · rename_i hn
        cases rd with
        | ref hn' =>
          have nR : ¬ w.R (w'.i n) := fun z => by
            have q := s.new n (by omega) hn'
            obtain ⟨u, e⟩ := f.held _ z
            rw [q] at e; cases e
          cases e : S'[n]? with
          | none => rw [e] at h; cases h
          | some o =>
            rw [e] at h
            cases o with
            | lst xs =>
              simp only at h
              cases e2 : mapO (frzR k S' S.length) xs with
              | none => rw [e2] at h; cases h
              | some ys =>
                rw [e2] at h
                cases h
                obtain ⟨vs, h1, h2⟩ := f'.obj n _ e
                exact .lst h1 nR (mapO_rel (fun d r v a b => frzR_rel f s f' k a b) e2 h2)
            | ins C fs => cases h
            | dct kvs => cases h
    | _ => exact gen h
/-- as cutSp2, what is given back is frozen with what is in it -/
def cutSp3 (sp : ASp) : ASp := fun ds S Q E => sp ds S (fun d S' => ∃ S1 T r j, S' = S1 ++ T ∧ S1.length = S.length ∧ (∀ (i : Nat) (o : O), S1[i]? = some o → S[i]? = some o ∨ clO S.length o = true) ∧ frzR j S' S.length d = some r ∧ Q r S1)
  (fun x S' => ∃ S1 T, S' = S1 ++ T ∧ S1.length = S.length ∧ (∀ (i : Nat) (o : O), S1[i]? = some o → S[i]? = some o ∨ clO S.length o = true) ∧ cls S.length x.vs = true ∧ E x S1)
theorem cutSp3_up {c : Cg} {sp : ASp} (vs : List V) (H : Hp) (Q : VK) (E : XK) (h : upSp c (cutSp3 sp) vs H Q E) : upSp c sp vs H Q E := by
  obtain ⟨w, S, ds, Q', E', f, r, ht, hq, he⟩ := h
  have k0 := wf_cl f
  have kk : ∀ {S1 : Sto}, (∀ (i : Nat) (o : O), S1[i]? = some o → S[i]? = some o ∨ clO S.length o = true) → ∀ o ∈ S1, clO S.length o = true := fun {S1} h o ho => by
    obtain ⟨i, e⟩ := List.getElem?_of_mem ho
    rcases h i o e with e | e
    · exact k0 o (List.mem_of_getElem? e)
    · exact e
  refine ⟨w, S, ds, _, _, f, r, ht, ?_, ?_⟩
  · rintro w' S' H' d v s f' rd ⟨S1, T, y, j, rfl, hl, k, hz, q⟩
    have fc := f.cut s f' hl (kk k)
    refine hq w S1 H' y v (by rw [hl]; exact s.cut) fc ?_ q
    rw [hl]
    exact frzR_rel f s f' j hz rd
  · rintro w' S' H' x cl d s f' rx ⟨S1, T, rfl, hl, k, kx, q⟩
    have fc := f.cut s f' hl (kk k)
    refine he w S1 H' x cl d (by rw [hl]; exact s.cut) fc ?_ q
    rw [hl]
    exact rx.cut s.up s.ids kx
theorem _root_.L2.Fnc.cut3 {P : Program} {w : World} {K : PySem.W.Frag} {mg : Str → Option Value} {base : Heap} {k : Nat} {x : Str} {c : Cg} {sp sp' : ASp} (F : Fnc P w K mg base k x (upSp c sp)) (h : ∀ ds S Q E, sp' ds S Q E → cutSp3 sp ds S Q E) : Fnc P w K mg base k x (upSp c sp') :=
  F.imp fun vs H Q E z => cutSp3_up vs H Q E (by
    obtain ⟨w', S, ds, Q', E', f, r, ht, hq, he⟩ := z
    exact ⟨w', S, ds, Q', E', f, r, h ds S Q' E' ht, hq, he⟩)
end A

set_option Elab.async false
set_option linter.all false
set_option maxRecDepth 100000
set_option maxHeartbeats 4000000
/-! lists and tuples whose items are held against each other by an own == : the answer may be False -/
namespace GR
open PySem PySem.SeqAt
open AutoSeq1 (wpAny_loadPart')
open MeetsSeq MeetsSeq2 MeetsSeq3 SeqRoads2
section
variable {P : Program} {w : World} {A : Around} {R : Result → Shared → Prop} {E : Value → Shared → Prop}
/-- two lists that stay as they are while their items are compared, the i-th two as e says -/
structure LsI (P : Program) (w : World) (A : Around) (E : Value → Shared → Prop) (p q : Addr) (xs ys : Array Value) (e : Nat → Bool) (J : Nat → Shared → Prop) : Prop where
  same : xs.size = ys.size
  at1 : ∀ i s, J i s → ∃ n, s.heap.get? p = some { cls := .type "list", data := .seq xs n }
  at2 : ∀ i s, J i s → ∃ n, s.heap.get? q = some { cls := .type "list", data := .seq ys n }
  turn : ∀ i (h1 : i < xs.size) (h2 : i < ys.size) s, J i s → wpAny (model P w) A.in1 (eqBool xs[i] ys[i]) (fun r s' => r = e i ∧ J (i + 1) s') E s
variable {p q : Addr} {xs ys : Array Value} {e : Nat → Bool} {J : Nat → Shared → Prop}
theorem loopEq (L : LsI P w A (fun x s' => R (.error x) s') p q xs ys e J) (fin : ∀ i s, J i s → R (.ok (.ret (.bool ((List.range xs.size).all e)))) s) (k : Nat) :
    ∀ i : Nat, xs.size - i = k → i ≤ xs.size → (∀ j, j < i → e j = true) → ∀ s, J i s → wpAny (model P w) A.in1 (Builtin.«list.__eq__.loop» ⟨[.ref p, .ref q, rawInt i, rawInt 2], []⟩) (GQ.FinOf P w A R) (fun x s' => R (.error x) s') s := by
  induction k with
  | zero =>
    intro i hk hi hall s h
    obtain ⟨n1, g1⟩ := L.at1 i s h
    obtain ⟨n2, g2⟩ := L.at2 i s h
    have hR := fin i s h
    have hA : (List.range xs.size).all e = true := by
      rw [List.all_eq_true]
      intro j hj
      exact hall j (by have := List.mem_range.mp hj; omega)
    rw [hA] at hR
    obtain ⟨hp, g, d, tk, os⟩ := s
    wp_walk using wpAny_loadPart' g1, wpAny_loadPart' g2
    rw [show xs[((i : Nat) : Int).toNat]? = none by simp; omega, show ys[((i : Nat) : Int).toNat]? = none by have := L.same; simp; omega]
    wp_walk using wpAny_loadPart' g1, wpAny_loadPart' g2
    show R (.ok (.ret (.bool (xs.size == ys.size)))) _
    rw [L.same]
    simpa using hR
  | succ k ih =>
    intro i hk hi hall s h
    obtain ⟨n1, g1⟩ := L.at1 i s h
    obtain ⟨n2, g2⟩ := L.at2 i s h
    have l1 : i < xs.size := by omega
    have l2 : i < ys.size := by have := L.same; omega
    have ht := L.turn i l1 l2 s h
    have hj1 : xs[((i : Nat) : Int).toNat]? = some xs[i] := by simp [l1]
    have hj2 : ys[((i : Nat) : Int).toNat]? = some ys[i] := by simp [l2]
    obtain ⟨hp, g, d, tk, os⟩ := s
    wp_walk using wpAny_loadPart' g1, wpAny_loadPart' g2
    rw [hj1, hj2]
    refine wpAny_bind (wpAny_mono ht (fun r s2 z => ?_) fun _ _ x => x)
    obtain ⟨hr, z⟩ := z
    subst hr
    have hR := fin (i + 1) s2 z
    obtain ⟨m1, f1⟩ := L.at1 _ s2 z
    obtain ⟨m2, f2⟩ := L.at2 _ s2 z
    cases hb : e i with
    | true =>
      have hrc := ih (i + 1) (by omega) (by omega) (fun j hj => by
        by_cases c : j = i
        · rw [c]; exact hb
        · exact hall j (by omega)) s2 z
      obtain ⟨hp2, g2', d2, tk2, os2⟩ := s2
      wp_walk
      rw [show ((i : Int) + 1) = ((i + 1 : Nat) : Int) by omega]
      refine ⟨plainId_quiet plain_eq_loop _, codeAny_builtin entry_eq_loop ?_⟩
      rw [Around.under_plainId plain_eq_loop _]
      exact hrc
    | false =>
      have hA : (List.range xs.size).all e = false := by
        rw [List.all_eq_false]
        exact ⟨i, List.mem_range.mpr l1, by rw [hb]; decide⟩
      rw [hA] at hR
      obtain ⟨hp2, g2', d2, tk2, os2⟩ := s2
      wp_walk using wpAny_loadPart' f1, wpAny_loadPart' f2
      rw [hj1, hj2]
      wp_walk
      simpa using hR
theorem loopNe (L : LsI P w A (fun x s' => R (.error x) s') p q xs ys e J) (fin : ∀ i s, J i s → R (.ok (.ret (.bool (!(List.range xs.size).all e)))) s) (k : Nat) :
    ∀ i : Nat, xs.size - i = k → i ≤ xs.size → (∀ j, j < i → e j = true) → ∀ s, J i s → wpAny (model P w) A.in1 (Builtin.«list.__eq__.loop» ⟨[.ref p, .ref q, rawInt i, rawInt 3], []⟩) (GQ.FinOf P w A R) (fun x s' => R (.error x) s') s := by
  induction k with
  | zero =>
    intro i hk hi hall s h
    obtain ⟨n1, g1⟩ := L.at1 i s h
    obtain ⟨n2, g2⟩ := L.at2 i s h
    have hR := fin i s h
    have hA : (List.range xs.size).all e = true := by
      rw [List.all_eq_true]
      intro j hj
      exact hall j (by have := List.mem_range.mp hj; omega)
    rw [hA] at hR
    obtain ⟨hp, g, d, tk, os⟩ := s
    wp_walk using wpAny_loadPart' g1, wpAny_loadPart' g2
    rw [show xs[((i : Nat) : Int).toNat]? = none by simp; omega, show ys[((i : Nat) : Int).toNat]? = none by have := L.same; simp; omega]
    wp_walk using wpAny_loadPart' g1, wpAny_loadPart' g2
    show R (.ok (.ret (.bool (xs.size != ys.size)))) _
    rw [L.same]
    simpa using hR
  | succ k ih =>
    intro i hk hi hall s h
    obtain ⟨n1, g1⟩ := L.at1 i s h
    obtain ⟨n2, g2⟩ := L.at2 i s h
    have l1 : i < xs.size := by omega
    have l2 : i < ys.size := by have := L.same; omega
    have ht := L.turn i l1 l2 s h
    have hj1 : xs[((i : Nat) : Int).toNat]? = some xs[i] := by simp [l1]
    have hj2 : ys[((i : Nat) : Int).toNat]? = some ys[i] := by simp [l2]
    obtain ⟨hp, g, d, tk, os⟩ := s
    wp_walk using wpAny_loadPart' g1, wpAny_loadPart' g2
    rw [hj1, hj2]
    refine wpAny_bind (wpAny_mono ht (fun r s2 z => ?_) fun _ _ x => x)
    obtain ⟨hr, z⟩ := z
    subst hr
    have hR := fin (i + 1) s2 z
    obtain ⟨m1, f1⟩ := L.at1 _ s2 z
    obtain ⟨m2, f2⟩ := L.at2 _ s2 z
    cases hb : e i with
    | true =>
      have hrc := ih (i + 1) (by omega) (by omega) (fun j hj => by
        by_cases c : j = i
        · rw [c]; exact hb
        · exact hall j (by omega)) s2 z
      obtain ⟨hp2, g2', d2, tk2, os2⟩ := s2
      wp_walk
      rw [show ((i : Int) + 1) = ((i + 1 : Nat) : Int) by omega]
      refine ⟨plainId_quiet plain_eq_loop _, codeAny_builtin entry_eq_loop ?_⟩
      rw [Around.under_plainId plain_eq_loop _]
      exact hrc
    | false =>
      have hA : (List.range xs.size).all e = false := by
        rw [List.all_eq_false]
        exact ⟨i, List.mem_range.mpr l1, by rw [hb]; decide⟩
      rw [hA] at hR
      obtain ⟨hp2, g2', d2, tk2, os2⟩ := s2
      wp_walk using wpAny_loadPart' f1, wpAny_loadPart' f2
      rw [hj1, hj2]
      wp_walk
      simpa using hR
theorem listEq (L : LsI P w A (fun x s' => R (.error x) s') p q xs ys e J) (fin : ∀ i s, J i s → R (.ok (.ret (.bool ((List.range xs.size).all e)))) s) {s : Shared} (h : J 0 s) :
    wpAny (model P w) A.in1 (Builtin.«list.__eq__» ⟨[.ref p, .ref q], []⟩) (GQ.FinOf P w A R) (fun x s' => R (.error x) s') s := by
  obtain ⟨n1, g1⟩ := L.at1 _ s h
  obtain ⟨n2, g2⟩ := L.at2 _ s h
  have hrc := loopEq L fin _ 0 rfl (Nat.zero_le _) (fun j hj => absurd hj (Nat.not_lt_zero j)) s h
  obtain ⟨hp, g, d, tk, os⟩ := s
  have isl := AutoSeq1.sub_list_list
  have hs : ¬ (xs.size != ys.size) = true := by rw [L.same]; simp
  wp_walk using wpAny_loadPart' g1, wpAny_loadPart' g2
  refine ⟨plainId_quiet plain_eq_loop _, codeAny_builtin entry_eq_loop ?_⟩
  rw [Around.under_plainId plain_eq_loop _]
  exact hrc
theorem listNe (L : LsI P w A (fun x s' => R (.error x) s') p q xs ys e J) (fin : ∀ i s, J i s → R (.ok (.ret (.bool (!(List.range xs.size).all e)))) s) {s : Shared} (h : J 0 s) :
    wpAny (model P w) A.in1 (Builtin.«list.__ne__» ⟨[.ref p, .ref q], []⟩) (GQ.FinOf P w A R) (fun x s' => R (.error x) s') s := by
  obtain ⟨n1, g1⟩ := L.at1 _ s h
  obtain ⟨n2, g2⟩ := L.at2 _ s h
  have hrc := loopNe L fin _ 0 rfl (Nat.zero_le _) (fun j hj => absurd hj (Nat.not_lt_zero j)) s h
  obtain ⟨hp, g, d, tk, os⟩ := s
  have isl := AutoSeq1.sub_list_list
  have hs : ¬ (xs.size != ys.size) = true := by rw [L.same]; simp
  wp_walk using wpAny_loadPart' g1, wpAny_loadPart' g2
  refine ⟨plainId_quiet plain_eq_loop _, codeAny_builtin entry_eq_loop ?_⟩
  rw [Around.under_plainId plain_eq_loop _]
  exact hrc
theorem rcLsEq {Q : Value → Shared → Prop} (hu : A.units < cLine) (L : LsI P w A E p q xs ys e J) (fin : ∀ i s, J i s → Q (.bool ((List.range xs.size).all e)) s) {s : Shared} (h : J 0 s) : wpAny (model P w) A (richCompare .Eq (.ref p) (.ref q)) Q E s := by
  obtain ⟨n1, g1⟩ := L.at1 _ s h
  obtain ⟨n2, g2⟩ := L.at2 _ s h
  refine wpAny_richCompare_same_room (op := .Eq) ⟨_, g1, rfl⟩ ⟨_, g2, rfl⟩ F.slot_list_eq (GQ.call_here F.slot_list_eq ⟨_, g1, rfl⟩ F.entry_list_eq (F.args_list_eq_2 _ _) ?_) hu
  exact listEq (R := wants (fun v s' => v ≠ .notImplemented ∧ Q v s') E) L (fun i s' z => ⟨(fun y => nomatch y), fin i s' z⟩) h
theorem rcLsNe {Q : Value → Shared → Prop} (hu : A.units < cLine) (L : LsI P w A E p q xs ys e J) (fin : ∀ i s, J i s → Q (.bool (!(List.range xs.size).all e)) s) {s : Shared} (h : J 0 s) : wpAny (model P w) A (richCompare .NotEq (.ref p) (.ref q)) Q E s := by
  obtain ⟨n1, g1⟩ := L.at1 _ s h
  obtain ⟨n2, g2⟩ := L.at2 _ s h
  refine wpAny_richCompare_same_room (op := .NotEq) ⟨_, g1, rfl⟩ ⟨_, g2, rfl⟩ F.slot_list_ne (GQ.call_here F.slot_list_ne ⟨_, g1, rfl⟩ F.entry_list_ne (F.args_list_ne_2 _ _) ?_) hu
  exact listNe (R := wants (fun v s' => v ≠ .notImplemented ∧ Q v s') E) L (fun i s' z => ⟨(fun y => nomatch y), fin i s' z⟩) h
theorem tupEq {n n2 : Nat} {dd dd2 : Option Addr} {sl sl2 : Array (Option Value)} (hs : xs.size = ys.size)
    (turn : ∀ i (h1 : i < xs.size) (h2 : i < ys.size) s, J i s → wpAny (model P w) A.in1 (eqBool xs[i] ys[i]) (fun r s' => r = e i ∧ J (i + 1) s') (fun x s' => R (.error x) s') s) (fin : ∀ i s, J i s → R (.ok (.ret (.bool ((List.range xs.size).all e)))) s)
    {s : Shared} (g1 : s.heap.get? p = some { cls := .type "tuple", dict := dd, data := .seq xs n, slots := sl }) (g2 : s.heap.get? q = some { cls := .type "tuple", dict := dd2, data := .seq ys n2, slots := sl2 }) (h : J 0 s) :
    wpAny (model P w) A.in1 (Builtin.«tuple.__eq__» ⟨[.ref p, .ref q], []⟩) (GQ.FinOf P w A R) (fun x s' => R (.error x) s') s := by
  have ist := AutoSeq1.sub_tuple_tuple
  have hZ : (xs.toList.zip ys.toList).length = xs.size := by simp [hs]
  have h0 := h
  obtain ⟨hp, g, d, tk, os⟩ := s
  wp_walk using wpAny_loadPart' g1, wpAny_loadPart' g2, wpAny_forIn_list _ (fun rest b s' => (b.1 = none ∧ ∃ i, rest = (xs.toList.zip ys.toList).drop i ∧ i ≤ xs.size ∧ (∀ j, j < i → e j = true) ∧ J i s')) _
  case turn =>
    rintro ⟨y, x⟩ rest b s' ⟨hb0, i, hz, hi, hall, hJ⟩
    have hlt : i < (xs.toList.zip ys.toList).length := by
      refine Nat.lt_of_not_le fun z => ?_
      rw [List.drop_of_length_le z] at hz
      cases hz
    have l1 : i < xs.size := hZ ▸ hlt
    have l2 : i < ys.size := hs ▸ l1
    rw [List.drop_eq_getElem_cons hlt] at hz
    injection hz with hyx hrest
    obtain rfl : y = xs[i] := by simpa using congrArg Prod.fst hyx
    obtain rfl : x = ys[i] := by simpa using congrArg Prod.snd hyx
    refine wpAny_bind (wpAny_mono (turn i l1 l2 s' hJ) (fun r s2 z => ?_) fun _ _ x => x)
    obtain ⟨hr, z⟩ := z
    subst hr
    cases hb : e i with
    | true =>
      wp_walk
      exact ⟨rfl, i + 1, hrest, l1, (fun j hj => by
        by_cases c : j = i
        · rw [c]; exact hb
        · exact hall j (by omega)), z⟩
    | false =>
      have hA : (List.range xs.size).all e = false := by
        rw [List.all_eq_false]
        exact ⟨i, List.mem_range.mpr l1, by rw [hb]; decide⟩
      have hR := fin _ _ z
      rw [hA] at hR
      wp_walk
      simpa using hR
  case fin =>
    rintro ⟨b1, b2⟩ s' ⟨hb0, i, hz, hi, hall, hJ⟩
    simp only at hb0
    subst hb0
    have hge : xs.size ≤ i := by
      refine Nat.le_of_not_lt fun z => ?_
      rw [List.drop_eq_getElem_cons (hZ.symm ▸ z)] at hz
      cases hz
    have hA : (List.range xs.size).all e = true := by
      rw [List.all_eq_true]
      intro j hj
      exact hall j (by have := List.mem_range.mp hj; omega)
    have hR := fin _ _ hJ
    rw [hA] at hR
    wp_walk
    simpa [Builtin.Tuple.tupleCompareSizes, hs] using hR
  case h =>
    exact ⟨rfl, 0, rfl, Nat.zero_le _, (fun j hj => absurd hj (Nat.not_lt_zero j)), h0⟩
theorem rcTpEq {Q : Value → Shared → Prop} (hs : xs.size = ys.size) (hu : A.units < cLine) {s : Shared} (t1 : s.heap.IsTuple p xs) (t2 : s.heap.IsTuple q ys)
    (turn : ∀ i (h1 : i < xs.size) (h2 : i < ys.size) s, J i s → wpAny (model P w) A.in1 (eqBool xs[i] ys[i]) (fun r s' => r = e i ∧ J (i + 1) s') E s) (fin : ∀ i s, J i s → Q (.bool ((List.range xs.size).all e)) s) (h : J 0 s) :
    wpAny (model P w) A (richCompare .Eq (.ref p) (.ref q)) Q E s := by
  obtain ⟨⟨c1, dd, dt1, sl⟩, g1, k1, n1, e1⟩ := id t1
  obtain ⟨⟨c2, dd2, dt2, sl2⟩, g2, k2, n2, e2⟩ := id t2
  simp only at k1 e1 k2 e2
  subst k1 e1 k2 e2
  refine wpAny_richCompare_same_room (op := .Eq) ⟨_, g1, rfl⟩ ⟨_, g2, rfl⟩ F.slot_tuple_eq (GQ.call_here F.slot_tuple_eq ⟨_, g1, rfl⟩ F.entry_tuple_eq (F.args_tuple_eq_2 _ _) ?_) hu
  exact tupEq (R := wants (fun v s' => v ≠ .notImplemented ∧ Q v s') E) hs turn (fun i s' z => ⟨(fun y => nomatch y), fin i s' z⟩) g1 g2 h
end
end GR

set_option Elab.async false
set_option linter.all false
set_option maxRecDepth 100000
set_option maxHeartbeats 4000000
/-! lists and tuples of instances with an own ==, over the layer of trees -/
namespace A
open PySem PySem.Spec PyProof.Rows L2
/-- tuples are read one way -/
def TupFun (K : PySem.W.Frag) (H : Hp) : Prop := ∀ a xs ys, SqT K H a xs → SqT K H a ys → xs = ys
/-- the i-th items compare as e says -/
def ItemsI (K : PySem.W.Frag) (C : Addr) (sp : Sp) (e : Nat → Bool) (us vs : List V) (G : Hp → Prop) : Prop := ∀ H', G H' → ∀ (i : Nat) a b, us[i]? = some a → vs[i]? = some b → Ins H' C a ∧ Ins H' C b ∧ (a = b → e i = true) ∧ sp [a, b] H' (fun v H2 => v = .bl (e i) ∧ G H2) EF
def rEqL (K : PySem.W.Frag) (C : Addr) (sp : Sp) (neg : Bool) : R2 := fun x y H Q => TupFun K H → ∃ p q us vs e G, x = .ref p ∧ y = .ref q ∧ us.length = vs.length ∧ G H ∧ (∀ H', G H' → H' p = some (.lst us) ∧ H' q = some (.lst vs)) ∧ ItemsI K C sp e us vs G ∧ ∀ H', G H' → Q (.bl ((List.range us.length).all e != neg)) H'
def rEqT (K : PySem.W.Frag) (C : Addr) (sp : Sp) : R2 := fun x y H Q => TupFun K H → ∃ p q us vs e G, x = .ref p ∧ y = .ref q ∧ us.length = vs.length ∧ G H ∧ SqT K H p us ∧ SqT K H q vs ∧ ItemsI K C sp e us vs G ∧ ∀ H', G H' → Q (.bl ((List.range us.length).all e != false)) H'
theorem vals_refs : ∀ {us : List V} {its : List Value}, (∀ a ∈ us, ∃ p, a = .ref p) → Vals us its → its = us.map fun a => match a with | .ref p => Value.ref p | _ => Value.none
  | [], _, _, .nil => rfl
  | a :: us, _, h, .cons r rs => by
    obtain ⟨p, rfl⟩ := h a (by simp)
    cases (show _ = Value.ref p from r)
    rw [vals_refs (fun z hz => h z (by simp [hz])) rs]
    rfl
section
variable {X : Cx} {k n : Nat} {C : Addr} {sp : Sp}
theorem turnI (M : Own X.prog X.w X.K X.mg X.base k C "__eq__" sp) (hr : Room (k + 1) X.A) {e : Nat → Bool} {us vs : List V} {G : Hp → Prop} (hI : ItemsI X.K C sp e us vs G) {pins : List (Addr × Obj)} {σ : L2.St} {xs ys : List Value} (r1 : Vals us xs) (r2 : Vals vs ys)
    (i : Nat) (h1 : i < xs.toArray.size) (h2 : i < ys.toArray.size) (s' : Shared) (J : ∃ H', Inv X pins σ H' s' ∧ G H') :
    wpAny (model X.prog X.w) X.A.in1 (eqBool xs.toArray[i] ys.toArray[i]) (fun r s2 => r = e i ∧ ∃ H', Inv X pins σ H' s2 ∧ G H') X.xe s' := by
  obtain ⟨f, hs, hf, F⟩ := M.ex
  obtain ⟨H', I, g⟩ := J
  have l1 : i < xs.length := by simpa using h1
  have l2 : i < ys.length := by simpa using h2
  have k1 : i < us.length := by rw [r1.length]; exact l1
  have k2 : i < vs.length := by rw [r2.length]; exact l2
  obtain ⟨u, hu, ru⟩ := r1.get (List.getElem?_eq_getElem k1)
  obtain ⟨v, hv, rv⟩ := r2.get (List.getElem?_eq_getElem k2)
  have gu : xs.toArray[i] = u := by
    rw [List.getElem?_eq_getElem l1] at hu
    simpa using Option.some.inj hu
  have gv : ys.toArray[i] = v := by
    rw [List.getElem?_eq_getElem l2] at hv
    simpa using Option.some.inj hv
  rw [gu, gv]
  obtain ⟨i1, i2, same, call⟩ := hI H' g i _ _ (List.getElem?_eq_getElem k1) (List.getElem?_eq_getElem k2)
  obtain ⟨a, ox, od, ea, rfl, J1⟩ := i1.inst I ru
  obtain ⟨b, oy, od', eb, rfl, J2⟩ := i2.inst I rv
  rw [ea, eb] at same call
  by_cases hab : a = b
  · subst hab
    exact SeqAt.EqAt.same (A := X.A.in1) (s := s') (.ref a) X.prog X.w X.xe _ ⟨(same rfl).symm, H', I, g⟩
  · obtain ⟨mm, hF⟩ := I.fr
    have hr1 : Room k X.A.in1 := hr.in1
    refine GQ.eqBool_refG hab ?_
    refine PySem.W.cmp_K (op := .Eq) (tb := .ref C) hr1.units0 hF I.ok.mod.kin J1 J2.type (by simp [PySem.W.notFirst]) hs hf ?_
    refine wpAny_mono (run_raw (E := EN) F hr1 I.env0.in1 (passN rfl rfl σ) I (.cons (rel_ref a) (.cons (rel_ref b) .nil)) call) (fun w s2 z => ?_) fun _ _ z => z
    obtain ⟨z', H2, I2, rz, rfl, g2⟩ := z
    cases (show w = Value.bool (e i) from rz)
    exact ⟨e i, rfl, rfl, H2, I2, g2⟩
theorem refs_of {pins : List (Addr × Obj)} {K : PySem.W.Frag} {us vs : List V} {e : Nat → Bool} {G : Hp → Prop} {H : Hp} (hl : us.length = vs.length) (hI : ItemsI K C sp e us vs G) (g : G H) : (∀ a ∈ us, ∃ p, a = .ref p) ∧ ∀ a ∈ vs, ∃ p, a = .ref p := by
  constructor
  · intro a ha
    obtain ⟨i, hi⟩ := List.getElem?_of_mem ha
    have l : i < us.length := (List.getElem?_eq_some_iff.mp hi).1
    obtain ⟨⟨p, _, _, rfl, _⟩, _⟩ := hI H g i a _ hi (List.getElem?_eq_getElem (hl ▸ l))
    exact ⟨p, rfl⟩
  · intro a ha
    obtain ⟨i, hi⟩ := List.getElem?_of_mem ha
    have l : i < vs.length := (List.getElem?_eq_some_iff.mp hi).1
    obtain ⟨_, ⟨p, _, _, rfl, _⟩, _⟩ := hI H g i _ a (List.getElem?_eq_getElem (hl ▸ l)) hi
    exact ⟨p, rfl⟩
theorem op_eqL (M : Own X.prog X.w X.K X.mg X.base k C "__eq__" sp) (hr : Room n X.A) (hk : k + 1 ≤ n) : OpR X (compareOp .Eq) (rEqL X.K C sp false) ∧ OpR X (compareOp .NotEq) (rEqL X.K C sp true) := by
  have hr0 : Room (k + 1) X.A := hr.mono hk
  constructor
  all_goals
    intro pins s σ H x y v u Q I rx ry h
    obtain ⟨p, q, us, vs, e, G, rfl, rfl, hl, g0, hG, hI, hQ⟩ := h fun a xs ys => I.tuple_inj
    cases rx
    cases ry
    obtain ⟨q1, q2⟩ := refs_of (pins := pins) hl hI g0
    obtain ⟨z, xs, m1, r1, e1⟩ := I.hok p _ (hG H g0).1
    obtain ⟨z2, ys, m2, r2, e2⟩ := I.hok q _ (hG H g0).2
    have lx : xs.toArray.size = us.length := by rw [List.size_toArray, r1.length]
    have ly : ys.toArray.size = vs.length := by rw [List.size_toArray, r2.length]
    have L : GR.LsI X.prog X.w X.A X.xe p q xs.toArray ys.toArray e (fun _ s' => ∃ H', Inv X pins σ H' s' ∧ G H') := by
      refine ⟨by rw [lx, ly, hl], fun i s' hJ => ?_, fun i s' hJ => ?_, fun i h1 h2 s' hJ => turnI M hr0 hI r1 r2 i h1 h2 s' hJ⟩
      · obtain ⟨H', I', g⟩ := hJ
        obtain ⟨_, xs', m', r', e'⟩ := I'.hok p _ (hG H' g).1
        rw [vals_refs q1 r', ← vals_refs q1 r1] at e'
        exact ⟨_, e'⟩
      · obtain ⟨H', I', g⟩ := hJ
        obtain ⟨_, ys', m', r', e'⟩ := I'.hok q _ (hG H' g).2
        rw [vals_refs q2 r', ← vals_refs q2 r2] at e'
        exact ⟨_, e'⟩
  · refine GR.rcLsEq hr0.units0 L (fun i s' hJ => ?_) ⟨H, I, g0⟩
    obtain ⟨H', I', g⟩ := hJ
    have := hQ H' g
    rw [lx]
    rw [show ((List.range us.length).all e != false) = (List.range us.length).all e by cases (List.range us.length).all e <;> rfl] at this
    exact ⟨.bl _, H', I', rfl, this⟩
  · refine GR.rcLsNe hr0.units0 L (fun i s' hJ => ?_) ⟨H, I, g0⟩
    obtain ⟨H', I', g⟩ := hJ
    have := hQ H' g
    rw [lx]
    rw [show ((List.range us.length).all e != true) = !(List.range us.length).all e by cases (List.range us.length).all e <;> rfl] at this
    exact ⟨.bl _, H', I', rfl, this⟩
theorem op_eqTp (M : Own X.prog X.w X.K X.mg X.base k C "__eq__" sp) (hr : Room n X.A) (hk : k + 1 ≤ n) : OpR X (compareOp .Eq) (rEqT X.K C sp) := by
  have hr0 : Room (k + 1) X.A := hr.mono hk
  intro pins s σ H x y v u Q I rx ry h
  obtain ⟨p, q, us, vs, e, G, rfl, rfl, hl, g0, t1, t2, hI, hQ⟩ := h fun a xs ys => I.tuple_inj
  cases rx
  cases ry
  obtain ⟨xs, r1, e1, _⟩ := I.tuple t1
  obtain ⟨ys, r2, e2, _⟩ := I.tuple t2
  have lx : xs.toArray.size = us.length := by rw [List.size_toArray, r1.length]
  have ly : ys.toArray.size = vs.length := by rw [List.size_toArray, r2.length]
  refine GR.rcTpEq (J := fun _ s' => ∃ H', Inv X pins σ H' s' ∧ G H') (e := e) (by rw [lx, ly, hl]) hr0.units0 e1 e2 (fun i h1 h2 s' hJ => turnI M hr0 hI r1 r2 i h1 h2 s' hJ) (fun i s' hJ => ?_) ⟨H, I, g0⟩
  obtain ⟨H', I', g⟩ := hJ
  have := hQ H' g
  rw [lx]
  rw [show ((List.range us.length).all e != false) = (List.range us.length).all e by cases (List.range us.length).all e <;> rfl] at this
  exact ⟨.bl _, H', I', rfl, this⟩
end
/-! over the layer -/
def flatI (d : D) : Prop := (∃ i, d = .int i) ∨ ∃ is : List Int, d = .tup (is.map D.int)
def solidI (C : Str) (d : D) : Prop := ∃ ns ds, d = .obj C ns ds ∧ ∀ z ∈ ds, flatI z
section
variable {c : Cg} {w : Wd} {S : Sto} {H : Hp} {C : Str} {sp : ASp}
theorem relInts_inj {N : Nat} : ∀ {is : List Int} {vs : List V}, RelL c w N H (is.map D.int) vs → vs = is.map V.int
  | [], _, .nil => rfl
  | i :: is, _, .cons h hs => by
    cases h
    rw [relInts_inj hs]
    rfl
theorem flat_inj {N : Nat} (T : TupFun c.K H) {x y : D} {v : V} (hx : flatI x) (hy : flatI y) (r1 : Rel c w N H x v) (r2 : Rel c w N H y v) : x = y := by
  rcases hx with ⟨i, rfl⟩ | ⟨is, rfl⟩
  · rcases hy with ⟨j, rfl⟩ | ⟨js, rfl⟩
    · cases r1
      cases r2
      rfl
    · cases r1
      cases r2
  · rcases hy with ⟨j, rfl⟩ | ⟨js, rfl⟩
    · cases r2
      cases r1
    · cases r1 with
      | tup h1 s1 =>
        cases r2 with
        | tup h2 s2 =>
          have e := T _ _ _ h1 h2
          rw [relInts_inj s1, relInts_inj s2] at e
          have : is = js := List.map_inj_right (f := V.int) (fun a b z => by cases z; rfl) |>.mp e
          rw [this]
theorem flats_inj {N : Nat} (T : TupFun c.K H) : ∀ {xs ys : List D} {vs : List V}, (∀ z ∈ xs, flatI z) → (∀ z ∈ ys, flatI z) → RelL c w N H xs vs → RelL c w N H ys vs → xs = ys
  | [], [], _, _, _, _, _ => rfl
  | [], _ :: _, _, _, _, .nil, h => by cases h
  | _ :: _, [], _, _, _, h, .nil => by cases h
  | x :: xs, y :: ys, _, hx, hy, .cons a as, .cons b bs => by
    rw [flat_inj T (hx x (by simp)) (hy y (by simp)) a b, flats_inj T (fun z hz => hx z (by simp [hz])) (fun z hz => hy z (by simp [hz])) as bs]
theorem solid_inj {N : Nat} (T : TupFun c.K H) {x y : D} {v : V} (hx : solidI C x) (hy : solidI C y) (r1 : Rel c w N H x v) (r2 : Rel c w N H y v) : x = y := by
  obtain ⟨ns, ds, rfl, h1⟩ := hx
  obtain ⟨ns', ds', rfl, h2⟩ := hy
  cases r1 with
  | obj a1 b1 c1 d1 =>
    cases r2 with
    | obj a2 b2 c2 d2 =>
      rw [a1] at a2
      cases a2
      rw [← c1, ← c2, flats_inj T h1 h2 d1 d2]
theorem solid_ins {N : Nat} {x : D} {v : V} (hx : solidI C x) (r : Rel c w N H x v) : Ins H (c.cA C) v := by
  obtain ⟨ns, ds, rfl, h1⟩ := hx
  cases r with
  | obj a1 b1 c1 d1 => exact ⟨_, _, _, rfl, a1⟩
/-- xs == ys, item by item as b says -/
def eqI (C : Str) (sp : ASp) (xs ys : List D) (S : Sto) (neg : Bool) (Q : QD) : Prop := ∃ b : D → D → Bool, xs.length = ys.length ∧ (∀ x ∈ xs, solidI C x) ∧ (∀ y ∈ ys, solidI C y) ∧ (∀ x ∈ xs, b x x = true) ∧
  (∀ x ∈ xs, ∀ y ∈ ys, sp [x, y] S (fun v S' => v = .bl (b x y) ∧ S' = S) (fun _ _ => False)) ∧ Q (.bl (((xs.zip ys).all fun p => b p.1 p.2) != neg)) S
def dEqL (C : Str) (sp : ASp) (neg : Bool) : F2 := fun d e S Q => ∃ xs ys, (d = .lst xs ∧ e = .lst ys) ∧ eqI C sp xs ys S neg Q
def dEqT (C : Str) (sp : ASp) : F2 := fun d e S Q => ∃ xs ys, (d = .tup xs ∧ e = .tup ys) ∧ eqI C sp xs ys S false Q
theorem zip_all {b : D → D → Bool} : ∀ {xs ys : List D}, xs.length = ys.length → ((xs.zip ys).all fun p => b p.1 p.2) = (List.range xs.length).all fun i => b (xs.getD i .non) (ys.getD i .non)
  | [], _, _ => by simp
  | x :: xs, [], h => by simp at h
  | x :: xs, y :: ys, h => by
    have ih := zip_all (b := b) (xs := xs) (ys := ys) (by simpa using h)
    rw [List.zip_cons_cons, List.all_cons, ih, List.length_cons, List.range_succ_eq_map, List.all_cons, List.all_map]
    rfl
/-- what the loop over the items keeps -/
def GI (c : Cg) (w : Wd) (S : Sto) (H : Hp) : Hp → Prop := fun H' => ∃ w', Stp w S.length H w' S.length H' ∧ Wf c w' S H'
theorem items_of {xs ys : List D} {us vs : List V} {b : D → D → Bool} (T : TupFun c.K H) (f : Wf c w S H) (hl : xs.length = ys.length) (h1 : ∀ x ∈ xs, solidI C x) (h2 : ∀ y ∈ ys, solidI C y) (h3 : ∀ x ∈ xs, b x x = true) (r1 : RelL c w S.length H xs us) (r2 : RelL c w S.length H ys vs)
    (h4 : ∀ x ∈ xs, ∀ y ∈ ys, sp [x, y] S (fun v S' => v = .bl (b x y) ∧ S' = S) (fun _ _ => False)) : ItemsI c.K (c.cA C) (upSp c sp) (fun i => b (xs.getD i .non) (ys.getD i .non)) us vs (GI c w S H) := by
  rintro H' ⟨w', s, f'⟩ i a a' hi hj
  obtain ⟨x, ex, rx⟩ := r1.getV hi
  obtain ⟨y, ey, ry⟩ := r2.getV hj
  have mx := List.mem_of_getElem? ex
  have my := List.mem_of_getElem? ey
  have gx : xs.getD i .non = x := by simp [List.getD, ex]
  have gy : ys.getD i .non = y := by simp [List.getD, ey]
  show _ ∧ _ ∧ (a = a' → b (xs.getD i .non) (ys.getD i .non) = true) ∧ upSp c sp [a, a'] H' (fun v H2 => v = V.bl (b (xs.getD i .non) (ys.getD i .non)) ∧ GI c w S H H2) EF
  rw [gx, gy]
  refine ⟨solid_ins (h1 x mx) (rx.stp s), solid_ins (h2 y my) (ry.stp s), fun e => ?_, w', S, [x, y], _, _, f', .cons (rx.stp s) (.cons (ry.stp s) .nil), h4 x mx y my, fun w2 S2 H2 d v s2 f2 rd hq => ?_, fun _ _ _ _ _ _ _ _ _ z => z.elim⟩
  · subst e
    have := solid_inj T (h1 x mx) (h2 y my) rx ry
    subst this
    exact h3 x mx
  · obtain ⟨rfl, rfl⟩ := hq
    cases rd
    exact ⟨rfl, w2, s.trans s2, f2⟩
theorem os_eqL {neg : Bool} : OpS c (dEqL C sp neg) (rEqL c.K (c.cA C) (upSp c sp) neg) := by
  intro w S H d e x y Q' Q f r1 r2 h k T
  obtain ⟨xs, ys, ⟨rfl, rfl⟩, b, hl, h1, h2, h3, h4, q⟩ := h
  cases r1 with
  | lst a1 b1 c1 =>
    cases r2 with
    | lst a2 b2 c2 =>
      refine ⟨_, _, _, _, _, GI c w S H, rfl, rfl, by rw [← c1.len, ← c2.len, hl], ⟨w, Stp.refl, f⟩, fun H' hg => ?_, items_of T f hl h1 h2 h3 c1 c2 h4, fun H' hg => ?_⟩
      · obtain ⟨w', s, _⟩ := hg
        exact ⟨s.fro _ _ a1 b1, s.fro _ _ a2 b2⟩
      · obtain ⟨w', s, f'⟩ := hg
        rw [← c1.len, ← zip_all hl]
        exact k w' S H' _ _ s f' (.bl _) q
theorem os_eqT : OpS c (dEqT C sp) (rEqT c.K (c.cA C) (upSp c sp)) := by
  intro w S H d e x y Q' Q f r1 r2 h k T
  obtain ⟨xs, ys, ⟨rfl, rfl⟩, b, hl, h1, h2, h3, h4, q⟩ := h
  cases r1 with
  | tup a1 c1 =>
    cases r2 with
    | tup a2 c2 =>
      refine ⟨_, _, _, _, _, GI c w S H, rfl, rfl, by rw [← c1.len, ← c2.len, hl], ⟨w, Stp.refl, f⟩, a1, a2, items_of T f hl h1 h2 h3 c1 c2 h4, fun H' hg => ?_⟩
      obtain ⟨w', s, f'⟩ := hg
      rw [← c1.len, ← zip_all hl]
      exact k w' S H' _ _ s f' (.bl _) q
end
theorem kop_eqL {X : Cx} {K : PySem.W.Frag} {k n : Nat} {C : Addr} {sp : Sp} (M : Own X.prog X.w K X.mg X.base k C "__eq__" sp) (hr : Room n X.A) (hk : k + 1 ≤ n) (hK : X.K = K := by rfl) : OpR X (compareOp .Eq) (rEqL K C sp false) := by
  subst hK
  exact (op_eqL M hr hk).1
theorem kop_neL {X : Cx} {K : PySem.W.Frag} {k n : Nat} {C : Addr} {sp : Sp} (M : Own X.prog X.w K X.mg X.base k C "__eq__" sp) (hr : Room n X.A) (hk : k + 1 ≤ n) (hK : X.K = K := by rfl) : OpR X (compareOp .NotEq) (rEqL K C sp true) := by
  subst hK
  exact (op_eqL M hr hk).2
theorem kop_eqT {X : Cx} {K : PySem.W.Frag} {k n : Nat} {C : Addr} {sp : Sp} (M : Own X.prog X.w K X.mg X.base k C "__eq__" sp) (hr : Room n X.A) (hk : k + 1 ≤ n) (hK : X.K = K := by rfl) : OpR X (compareOp .Eq) (rEqT K C sp) := by
  subst hK
  exact op_eqTp M hr hk
end A

set_option Elab.async false
set_option linter.all false
set_option maxRecDepth 100000
set_option maxHeartbeats 4000000
/-! x op y by x's own def, y an instance of another own class -/
namespace PySem.W
open PySem PySem.Calls PyProof.Rows
section
variable {prog : Program} {w : World} {A : Around} {E : Value → Shared → Prop} {s : Shared} {K : Frag} {x y C D L f g : Addr} {h₀ : Heap} {m : Str → Option Value} {ox oy : Obj} {od od' : Option Obj}
theorem ksp_bin2 {op : Operator} {Q : Value → Shared → Prop} (Fm : Fr h₀ L s.heap m) (X₀ : K.In h₀) (I : InstAt s.heap x ox C od) (I2 : InstAt s.heap y oy D od') (hne : C ≠ D) (hc : selfFirst K C = true) (hd : selfFirst K D = true)
    (hs : findIn K (.ref C) (PySem.dunder op.info.2) = some (some (.ref f))) (hf : isFn K (.ref f) = true) (hs2 : findIn K (.ref D) (PySem.dunder op.info.2) = some (some (.ref g))) (hr : findIn K (.ref C) (dunderR op.info.2) = some none) (hr2 : findIn K (.ref D) (dunderR op.info.2) = some none)
    (hsub : subIn K (.ref D) (.ref C) = some false) (h : wpAny (model prog w) A (call (.ref f) [.ref x, .ref y]) (CmpBack Q) E s) : wpAny (model prog w) A (binaryOp op (.ref x) (.ref y)) Q E s := by
  have X := X₀.keeps Fm.keep
  obtain ⟨cd, rest, hcd, hm⟩ := ksp_first hc
  obtain ⟨cd2, rest2, hcd2, hm2⟩ := ksp_first hd
  rcases hi : op.info with ⟨sym, nm'⟩
  rw [hi] at hs hs2 hr hr2
  dsimp only at hs hs2 hr hr2
  have one := ksp_try X I hs hf h
  obtain ⟨hh, gg, d, tt, os⟩ := s
  have L1 : Looks (model prog w) hh (typeOf (.ref x)) (.ref C) := I.type
  have L2 : Looks (model prog w) hh (typeOf (.ref y)) (.ref D) := I2.type
  have L3 : Looks (model prog w) hh (fillsNumberSlot (.ref C) nm') true := fills_K X hcd hm hs
  have L4 : Looks (model prog w) hh (fillsNumberSlot (.ref D) nm') true := fills_K X hcd2 hm2 hs2
  have L5 : Looks (model prog w) hh (isSubtype (.ref D) (.ref C)) false := looks_subIn X hsub
  have L6 : Looks (model prog w) hh (numberSlotInPython (.ref C) nm') true := ksp_inPy X hs hr (.inl rfl)
  have L7 : Looks (model prog w) hh (numberSlotInPython (.ref D) nm') true := ksp_inPy X hs2 hr2 (.inl rfl)
  have nq : (Value.ref C == Value.ref D) = false := Bool.eq_false_iff.mpr fun q => by have := beq_iff_eq.mp q; cases this; exact hne rfl
  simp only [binaryOp, hi]
  refine wpAny_holding (wpAny_bind ?_)
  unfold binaryOp1
  refine wpAny_bind (L1.at (wpAny_bind (L2.at (wpAny_bind (L3.at ?_)))))
  simp only [nq, Bool.false_eq_true, if_false]
  ksp_lk
  refine wpAny_mono one (fun r s' hr' => ?_) fun _ _ e => e
  obtain ⟨v, rfl, hq⟩ := hr'
  ksp_lk
  exact hq
end
end PySem.W
namespace L2
open PySem PySem.Spec PyProof.Rows
/-- y's class D against x's class C, at the operator nm -/
structure Oth (K : PySem.W.Frag) (C D : Addr) (nm : String) : Prop where
  ne : C ≠ D
  sfd : PySem.W.selfFirst K D = true
  g : ∃ g : Addr, PySem.W.findIn K (.ref D) (PySem.dunder nm) = some (some (.ref g))
  r1 : PySem.W.findIn K (.ref C) (dunderR nm) = some none
  r2 : PySem.W.findIn K (.ref D) (dunderR nm) = some none
  sub : PySem.W.subIn K (.ref D) (.ref C) = some false
section
variable {X : Cx} {k n : Nat} {C D : Addr} {sp : Sp} {E : St → XK}
def tBin2 (C D : Addr) (sp : Sp) (E : St → XK) (ta tb : TE) : TE := fun σ H Q => ta σ H fun x H1 => tb σ H1 fun y H2 => Ins H2 C x ∧ Ins H2 D y ∧ sp [x, y] H2 Q (E σ)
theorem pe_bin2 {op : Operator} {a b : Expr} {ta tb : TE} {pos : Pos} (M : Own X.prog X.w X.K X.mg X.base k C (PySem.dunder op.info.2) sp) (sf : PySem.W.selfFirst X.K C = true) (O : Oth X.K C D op.info.2) (hr : Room n X.A) (hk : k ≤ n) (hx : ∀ σ, PassesAt (L2N.CX X.prog X.w) X σ (E σ))
    (ha : PE X a ta) (hb : PE X b tb) : PE X (.BinOp a op b pos) (tBin2 C D sp E ta tb) := by
  refine ⟨fun pins s σ H Q I h => ?_⟩
  refine wpAny_BinOp (binT ha hb I h fun v u s2 x y H2 I2 rx ry q => ?_)
  obtain ⟨hi, ho, q⟩ := q
  obtain ⟨f, hs, hf, F⟩ := M.ex
  obtain ⟨g, hg⟩ := O.g
  obtain ⟨a1, ox, od, rfl, rfl, J⟩ := hi.inst I2 rx
  obtain ⟨b1, oy, od', rfl, rfl, J'⟩ := ho.inst I2 ry
  obtain ⟨mm, hF⟩ := I2.fr
  refine PySem.W.ksp_bin2 hF I2.ok.mod.kin J J' O.ne sf O.sfd hs hf hg O.r1 O.r2 O.sub ?_
  refine wpAny_mono (run_raw F (hr.mono hk) I2.env0 (hx σ) I2 (.cons (rel_ref a1) (.cons (rel_ref b1) .nil)) q) (fun w s' z => ?_) fun _ _ z => z
  obtain ⟨z', H', I', rz, qz⟩ := z
  exact SlX.cmpback rz ⟨z', H', I', rz, qz⟩
end
end L2
namespace A
open PySem PySem.Spec PyProof.Rows L2
section
variable {X : Cx} {n : Cn} {k r : Nat} {sp : ASp} {C C2 : Str} {a b : Expr} {ta tb : AM D} {pos : Pos}
def aBin2 (C C2 : Str) (sp : ASp) (ta tb : AM D) : AM D := aBind ta fun x => aBind tb fun y => fun _ S Q E => opt (insOf S x C) fun _ => (∃ fs, insOf S y C2 = some fs) ∧ sp [x, y] S Q E
theorem j_bin2 {op : Operator} (M : Own X.prog X.w X.K X.mg X.base k (n.c.cA C) (PySem.dunder op.info.2) (upSp n.c sp)) (sf : PySem.W.selfFirst X.K (n.c.cA C) = true) (O : Oth X.K (n.c.cA C) (n.c.cA C2) op.info.2) (hr : Room r X.A) (hk : k ≤ r) (hx : ∀ σ, PassesAt (L2N.CX X.prog X.w) X σ (WE n.W σ))
    (ha : JE X n a ta) (hb : JE X n b tb) : JE X n (.BinOp a op b pos) (aBin2 C C2 sp ta tb) := by
  refine PE.imp (pe_bin2 M sf O hr hk hx ha hb) fun σ H Q ⟨w, ρ, S, st, h⟩ => ?_
  refine (upW.bind st h).mono ?_
  rintro x H1 ⟨w1, S1, d, st1, _, r1, h1⟩
  refine (upW.bind st1 h1).mono ?_
  rintro y H2 ⟨w2, S2, e, st2, s2, r2, Q2, E2, h2, hq2, he2⟩
  obtain ⟨fs, e1, ⟨fs', e2⟩, h2⟩ := opt_some h2
  exact ⟨ins_rel st2.wf e1 (r1.stp s2), ins_rel st2.wf e2 r2, upSp.of (ρ := ρ) ⟨Q2, E2, h2, hq2, he2⟩ st2.wf (.cons (r1.stp s2) (.cons r2 .nil))⟩
end
end A

set_option Elab.async false
set_option linter.all false
set_option maxRecDepth 100000
set_option maxHeartbeats 4000000
/-! sorted(set(t)), a tuple of ints -/
namespace L2
open PySem PySem.Spec PyProof.Rows
def tSrtSet (K : PySem.W.Frag) (ta : TE) : TE := fun σ H Q => ta σ H fun x H1 => ∃ (p : Addr) (ns : List Int), x = .ref p ∧ SqT K H1 p (ns.map V.int) ∧ ns.length ≤ 60 ∧
  ∀ (out : List Int) (q : Addr), out.Pairwise (· < ·) → (∀ k, k ∈ out ↔ k ∈ ns) → H1 q = none → Q (.ref q) (upd H1 q (.lst (out.map V.int)))
theorem pe_srtSet {X : Cx} {a : Expr} {ta : TE} {p p2 q pos : Pos} (hg : Gl X "sorted") (hm : X.mg "sorted" = none) (hg2 : Gl X "set") (hm2 : X.mg "set" = none) (ha : PE X a ta) (hc : X.calm = true := by rfl)
    (na : starEach [a] X.env = (false, eval a X.env) :: starEach [] X.env := by rfl) : PE X (.Call (.Name "sorted" p) [.Call (.Name "set" p2) [a] [] q] [] pos) (tSrtSet X.K ta) := by
  refine ⟨fun pins s σ H Q I h => ?_⟩
  refine Call_ (ld_blt I hg hm (u := .builtin "sorted") (by rfl) ?_)
  refine PyProof.Rows.callWith_builtin1 (PyProof.Rows.args_cons ?_ rfl) rfl rfl
  refine Call_ (ld_blt I hg2 hm2 PyProof.Rows.boot_set ?_)
  refine PyProof.Rows.callWith_type1 (PyProof.Rows.args_cons (thn (ha.run pins s σ H _ I h) fun v s1 ⟨x, H1, I1, r1, q1⟩ => PyProof.Rows.args_nil ?_) na) na rfl
  obtain ⟨l, ns, rfl, hq, hl, q1⟩ := q1
  cases r1
  obtain ⟨its, rv, pt, hz⟩ := I1.tuple hq
  have hd := I1.ok.hd hc
  refine call_set_tupI ns hd (show s1.heap.IsTuple l its.toArray from pt) (ints_of_vals rv) (by unfold scanBound; omega) fun h' tk c R1 hcn k => ?_
  refine PyProof.Rows.args_nil ?_
  have I2 : Inv X pins σ H1 { s1 with heap := h', toks := tk } := I1.kept k
  refine sorted_set R1 hd (by omega) fun s' pl out c2 ms k2 g2 o2 hp2 hg2 hi hs hms hml => ?_
  have hlen : (ms.map V.int).length ≤ sizeLine := by rw [List.length_map, hml, sizeLine_eq]; omega
  have hn : H1 pl = none := I2.hok.fresh hp2
  have J : Inv X pins σ (upd H1 pl (.lst (ms.map V.int))) s' := I2.call' (ch := []) o2 (Un.laid k2 hp2 hn) (I2.hok.laid k2 hp2 ⟨hlen, out.toList, c2, vals_of_ints hi, hg2⟩) (by rw [g2]; exact I2.bare) fun _ z => nomatch z
  exact ⟨.ref pl, _, J, rfl, q1 ms pl hs (fun j => by rw [hms j, decide_eq_true_eq]) hn⟩
/-- a def with a star parameter alone -/
theorem bindStar0 {fd : FuncData} {v : Arg} (h1 : fd.params.posonlyargs = []) (h2 : fd.params.args = []) (h3 : fd.params.vararg = some v) (h4 : fd.params.kwonlyargs = []) (h5 : fd.params.kwarg = none) (h6 : fd.defaults = .none) :
    ∀ (us rest : List Value), us.length = ([] : List Str).length → bindArgs fd ⟨us ++ rest, []⟩ = (newTuple rest >>= fun t => pure (([] : List Str).zip us ++ [(v.arg, t)]))
  | [], rest, _ => by
    unfold bindArgs
    simp only [h1, h2, h3, h4, h5, h6]
    simp [seqItems?]
    rfl
end L2
namespace A
open PySem PySem.Spec PyProof.Rows L2
def aSrtSet (ta : AM D) : AM D := aBind ta fun d => fun _ S Q _ => ∃ ns : List Int, d = .tup (ns.map D.int) ∧ ns.length ≤ 60 ∧ ∀ out : List Int, out.Pairwise (· < ·) → (∀ k, k ∈ out ↔ k ∈ ns) → Q (.lst (out.map D.int)) S
theorem j_srtSet {X : Cx} {n : Cn} {a : Expr} {ta : AM D} {p p2 q pos : Pos} (hK : X.K = n.c.K) (hg : Gl X "sorted") (hm : X.mg "sorted" = none) (hg2 : Gl X "set") (hm2 : X.mg "set" = none) (ha : JE X n a ta) (hc : X.calm = true := by rfl)
    (na : starEach [a] X.env = (false, eval a X.env) :: starEach [] X.env := by rfl) : JE X n (.Call (.Name "sorted" p) [.Call (.Name "set" p2) [a] [] q] [] pos) (aSrtSet ta) := PE.imp (pe_srtSet hg hm hg2 hm2 ha hc na) fun σ H Q ⟨w, ρ, S, st, h⟩ => by
  refine (upW.bind st h).mono ?_
  rintro x H1 ⟨w1, S1, d, st1, _, r1, h1⟩
  refine h1.op fun Q' hf hq => ?_
  obtain ⟨ns, rfl, hl, qq⟩ := hf
  cases r1 with
  | tup t1 c1 =>
    rw [relInts_inj c1] at t1
    rw [hK]
    exact ⟨_, ns, rfl, t1, hl, fun out q hp hm hn => finL st1.wf hq relL_ints hn (fun c u w => by rw [upd_ne (ne_of_none w hn)]; exact w) upd_same (qq out hp hm)⟩
end A

set_option Elab.async false
set_option linter.all false
/-! sets of lengths: in the end periodic sets of numbers, and their shortest form. Plain Lean. -/
namespace Sm
/-- from N on the set has the period p -/
def Per (f : Nat → Bool) (N p : Nat) : Prop := ∀ n, N ≤ n → f (n + p) = f n
theorem Per.up {f : Nat → Bool} {N M p : Nat} (h : Per f N p) (l : N ≤ M) : Per f M p := fun n hn => h n (Nat.le_trans l hn)
theorem Per.mul {f : Nat → Bool} {N p : Nat} (h : Per f N p) (k : Nat) : Per f N (k * p) := by
  induction k with
  | zero => intro n _; rw [Nat.zero_mul]; rfl
  | succ k ih =>
    intro n hn
    rw [Nat.succ_mul, ← Nat.add_assoc, h _ (by omega), ih n hn]
theorem Per.sub {f : Nat → Bool} {N p q : Nat} (hp : Per f N p) (hq : Per f N q) (l : q ≤ p) : Per f N (p - q) := by
  intro n hn
  rw [← hq (n + (p - q)) (by omega), show n + (p - q) + q = n + p by omega, hp n hn]
theorem Per.mod {f : Nat → Bool} {N p q : Nat} (hp : Per f N p) (hq : Per f N q) : Per f N (p % q) := by
  have e : p % q = p - (p / q) * q := by
    have := Nat.div_add_mod p q
    rw [Nat.mul_comm] at this
    omega
  rw [e]
  exact hp.sub (hq.mul _) (Nat.div_mul_le_self p q)
/-- a period may be pulled down to where another one holds -/
theorem Per.down {f : Nat → Bool} {N M p q : Nat} (hp : Per f N p) (h0 : 0 < p) (hq : Per f M q) : Per f N q := by
  intro n hn
  have a : f (n + q) = f (n + q + M * p) := (hp.mul M (n + q) (by omega)).symm
  have b : f n = f (n + M * p) := (hp.mul M n hn).symm
  have c : M ≤ n + M * p := by
    have := Nat.le_mul_of_pos_right M h0
    omega
  rw [a, b, show n + q + M * p = (n + M * p) + q by omega, hq _ c]
/-- the least period of all -/
def Least (f : Nat → Bool) (s : Nat) : Prop := 0 < s ∧ ∀ N p, 0 < p → Per f N p → s ≤ p
theorem Least.dvd {f : Nat → Bool} {s N M p : Nat} (h : Least f s) (hs : Per f N s) (hp : Per f M p) : p % s = 0 := by
  have a : Per f (max N M) (p % s) := (hp.up (Nat.le_max_right N M)).mod (hs.up (Nat.le_max_left N M))
  rcases Nat.eq_zero_or_pos (p % s) with z | z
  · exact z
  · exact absurd (h.2 _ _ z a) (by have := Nat.mod_lt p h.1; omega)
theorem least_ex {f : Nat → Bool} {N P : Nat} (h0 : 0 < P) (h : Per f N P) : ∃ s, Least f s ∧ ∃ M, Per f M s := by
  induction P using Nat.strongRecOn generalizing N with
  | ind P ih =>
    by_cases z : ∃ q M, 0 < q ∧ q < P ∧ Per f M q
    · obtain ⟨q, M, q0, qP, hq⟩ := z
      exact ih q qP q0 hq
    · refine ⟨P, ⟨h0, fun M p p0 hp => ?_⟩, N, h⟩
      rcases Nat.lt_or_ge p P with l | l
      · exact absurd ⟨p, M, p0, l, hp⟩ z
      · exact l
/-- a cycle of P cells repeats its first p -/
theorem per_iff {f : Nat → Bool} {S P p : Nat} (hP : Per f S P) (p0 : 0 < p) (hd : P % p = 0) (P0 : 0 < P) : (∀ i, i < P → f (S + i) = f (S + i % p)) ↔ Per f S p := by
  constructor
  · intro h n hn
    have red : ∀ m, f (S + m) = f (S + m % p) := fun m => by
      have a : f (S + m) = f (S + m % P) := by
        have := hP.mul (m / P) (S + m % P) (by omega)
        rw [show S + m % P + m / P * P = S + m by have := Nat.div_add_mod m P; rw [Nat.mul_comm] at this; omega] at this
        exact this
      rw [a, h _ (Nat.mod_lt _ P0), Nat.mod_mod_of_dvd m (Nat.dvd_of_mod_eq_zero hd)]
    obtain ⟨m, rfl⟩ : ∃ m, n = S + m := ⟨n - S, by omega⟩
    rw [show S + m + p = S + (m + p) by omega, red (m + p), red m, Nat.add_mod_right]
  · intro h i _
    have := h.mul (i / p) (S + i % p) (by omega)
    rw [show S + i % p + i / p * p = S + i by have := Nat.div_add_mod i p; rw [Nat.mul_comm] at this; omega] at this
    exact this
/-- what the search for the shortest period finds is the least period of all -/
theorem least_of {f : Nat → Bool} {S P s : Nat} (hP : Per f S P) (P0 : 0 < P) (s0 : 0 < s) (hs : Per f S s) (hd : P % s = 0) (no : ∀ p, 0 < p → p < s → ¬ (P % p = 0 ∧ Per f S p)) : Least f s := by
  obtain ⟨q, hq, M, hM⟩ := least_ex P0 hP
  have dn : Per f S q := hP.down P0 hM
  have qs : q ≤ s := hq.2 _ _ s0 hs
  rcases Nat.lt_or_ge q s with l | l
  · exact absurd ⟨hq.dvd hM hP, dn⟩ (no q hq.1 l)
  · have e : q = s := by omega
    rw [← e]
    exact hq
/-- the shortest form of a set: the least period, and with it the least start -/
structure Canon (f : Nat → Bool) (first size : Nat) : Prop where
  per : Per f first size
  least : Least f size
  start : first = 0 ∨ f (first - 1) ≠ f (first - 1 + size)
theorem Canon.unique {f : Nat → Bool} {a b p q : Nat} (h : Canon f a p) (k : Canon f b q) : a = b ∧ p = q := by
  have e : p = q := Nat.le_antisymm (h.least.2 _ _ k.least.1 k.per) (k.least.2 _ _ h.least.1 h.per)
  subst e
  refine ⟨?_, rfl⟩
  rcases Nat.lt_trichotomy a b with l | l | l
  · rcases k.start with z | z
    · omega
    · exact absurd (h.per (b - 1) (by omega)).symm z
  · exact l
  · rcases h.start with z | z
    · omega
    · exact absurd (k.per (a - 1) (by omega)).symm z
/-- the place of the remainder r in the cycle behind the start -/
def spot (first size : Nat) (r : Nat) : Nat := first + (((r : Int) - (first : Int)) % (size : Int)).toNat
theorem spot_ge (first size r : Nat) : first ≤ spot first size r := by unfold spot; omega
theorem spot_mod {first size r : Nat} (h : 0 < size) : spot first size r % size = r % size := by
  unfold spot
  have a : 0 ≤ ((r : Int) - (first : Int)) % (size : Int) := Int.emod_nonneg _ (by omega)
  have e : (((first + (((r : Int) - (first : Int)) % (size : Int)).toNat : Nat) : Int)) % (size : Int) = (r : Int) % (size : Int) := by
    rw [Int.natCast_add, Int.toNat_of_nonneg a, Int.add_emod_emod]
    congr 1
    omega
  have z : (((first + (((r : Int) - (first : Int)) % (size : Int)).toNat) % size : Nat) : Int) = ((r % size : Nat) : Int) := by
    rw [Int.natCast_emod, Int.natCast_emod]
    exact e
  exact Int.ofNat.inj z
theorem Per.same {f : Nat → Bool} {N p a b : Nat} (h : Per f N p) (ha : N ≤ a) (hb : N ≤ b) (e : a % p = b % p) (h0 : 0 < p) : f a = f b := by
  have key : ∀ x y, N ≤ x → x ≤ y → x % p = y % p → f x = f y := fun x y hx l e => by
    have d : (y - x) % p = 0 := by
      have := Nat.sub_mod_eq_zero_of_mod_eq e.symm
      exact this
    obtain ⟨k, hk⟩ := Nat.dvd_of_mod_eq_zero d
    have := h.mul k x hx
    rw [show x + k * p = y by rw [Nat.mul_comm]; omega] at this
    exact this.symm
  rcases Nat.le_total a b with l | l
  · exact key a b ha l e
  · exact (key b a hb l e.symm).symm
/-- a number from the start on is in the set just if its remainder is among the rests -/
theorem rest_iff {f : Nat → Bool} {first size n : Nat} (h : Per f first size) (h0 : 0 < size) (hn : first ≤ n) : f (spot first size (n % size)) = f n :=
  h.same (spot_ge _ _ _) hn (by rw [spot_mod h0, Nat.mod_mod]) h0
end Sm

set_option Elab.async false
set_option linter.all false
/-! sets of lengths: what the four arguments tell, the shortest form as it is found. Plain Lean. -/
namespace Sm
/-- the numbers that four right arguments tell -/
def hasN (es rs : List Int) (start period n : Nat) : Bool := if n < start then decide ((n : Int) ∈ es) else decide (((n % period : Nat) : Int) ∈ rs)
theorem hasN_per {es rs : List Int} {start period : Nat} : Per (hasN es rs start period) start period := fun n hn => by
  unfold hasN
  rw [if_neg (by omega), if_neg (by omega), Nat.add_mod_right]
def memL (f : Nat → Bool) (first : Nat) : List Nat := (List.range first).filter f
def tailL (f : Nat → Bool) (first size : Nat) : List Nat := (List.range size).filter fun r => f (spot first size r)
def intsN (l : List Nat) : List Int := l.map fun (n : Nat) => (n : Int)
theorem mem_intsN {l : List Nat} {n : Nat} : (n : Int) ∈ intsN l ↔ n ∈ l := by
  unfold intsN
  rw [List.mem_map]
  exact ⟨fun ⟨m, h, e⟩ => by have : m = n := Int.ofNat.inj e; exact this ▸ h, fun h => ⟨n, h, rfl⟩⟩
theorem spot_lt {first size : Nat} (h : 0 < size) (r : Nat) : spot first size r < first + size := by
  unfold spot
  have a : ((r : Int) - (first : Int)) % (size : Int) < size := Int.emod_lt_of_pos _ (by omega)
  have b : 0 ≤ ((r : Int) - (first : Int)) % (size : Int) := Int.emod_nonneg _ (by omega)
  omega
theorem hasN_back {f : Nat → Bool} {a p : Nat} (h : Per f a p) (h0 : 0 < p) (n : Nat) : hasN (intsN (memL f a)) (intsN (tailL f a p)) a p n = f n := by
  unfold hasN
  split
  · rename_i hn
    rw [Bool.eq_iff_iff, decide_eq_true_iff, mem_intsN, memL, List.mem_filter, List.mem_range]
    exact ⟨fun z => z.2, fun z => ⟨hn, z⟩⟩
  · rename_i hn
    rw [Bool.eq_iff_iff, decide_eq_true_iff, mem_intsN, tailL, List.mem_filter, List.mem_range, rest_iff h h0 (by omega)]
    exact ⟨fun z => z.2, fun z => ⟨Nat.mod_lt _ h0, z⟩⟩
theorem hasN_fun {f : Nat → Bool} {a p : Nat} (h : Per f a p) (h0 : 0 < p) : hasN (intsN (memL f a)) (intsN (tailL f a p)) a p = f := funext (hasN_back h h0)
theorem asc_range {f : Nat → Bool} (n : Nat) : (intsN ((List.range n).filter f)).Pairwise (· < ·) := by
  unfold intsN
  rw [List.pairwise_map]
  exact (List.Pairwise.filter f (List.pairwise_lt_range)).imp fun h => by omega
theorem bnd_range {f : Nat → Bool} {n : Nat} : ∀ x ∈ intsN ((List.range n).filter f), 0 ≤ x ∧ x < (n : Int) := fun x hx => by
  obtain ⟨m, hm, rfl⟩ := List.mem_map.mp hx
  have := List.mem_range.mp (List.mem_filter.mp hm).1
  omega
/-! ### a cycle that repeats its first -/
theorem getRep {α : Type} {l : List α} : ∀ {k i : Nat}, i < k * l.length → (List.replicate k l).flatten[i]? = l[i % l.length]?
  | 0, i, h => by simp at h
  | k + 1, i, h => by
    rw [List.replicate_succ, List.flatten_cons, List.getElem?_append]
    split
    · rename_i hl
      rw [Nat.mod_eq_of_lt hl]
    · rename_i hl
      rw [getRep (by rw [Nat.succ_mul] at h; omega), ← Nat.mod_eq_sub_mod (by omega)]
theorem flat_len {α : Type} {l : List α} : ∀ {k : Nat}, (List.replicate k l).flatten.length = k * l.length
  | 0 => by simp
  | k + 1 => by rw [List.replicate_succ, List.flatten_cons, List.length_append, flat_len, Nat.succ_mul, Nat.add_comm]
theorem cyc_iff {α : Type} {l : List α} {p : Nat} (hd : l.length % p = 0) (p0 : 0 < p) (hp : p ≤ l.length) : l = (List.replicate (l.length / p) (l.take p)).flatten ↔ ∀ i, i < l.length → l[i]? = l[i % p]? := by
  have tl : (l.take p).length = p := by simp; omega
  have lm : l.length / p * p = l.length := Nat.div_mul_cancel (Nat.dvd_of_mod_eq_zero hd)
  have at_ : ∀ i, i < l.length → (List.replicate (l.length / p) (l.take p)).flatten[i]? = l[i % p]? := fun i hi => by
    rw [getRep (by rw [tl, lm]; exact hi), tl, List.getElem?_take_of_lt (Nat.mod_lt _ p0)]
  constructor
  · intro h i hi
    rw [← at_ i hi]
    exact congrArg (·[i]?) h
  · intro h
    refine List.ext_getElem? fun i => ?_
    by_cases hi : i < l.length
    · rw [at_ i hi]; exact h i hi
    · rw [List.getElem?_eq_none (by omega), List.getElem?_eq_none (by rw [flat_len, tl, lm]; omega)]
/-- the truths of f from S on -/
def cyc (f : Nat → Bool) (S P : Nat) : List Bool := (List.range P).map fun i => f (S + i)
theorem cyc_len {f : Nat → Bool} {S P : Nat} : (cyc f S P).length = P := by simp [cyc]
theorem cyc_at {f : Nat → Bool} {S P i : Nat} (h : i < P) : (cyc f S P)[i]? = some (f (S + i)) := by simp [cyc, h]
theorem cyc_per {f : Nat → Bool} {S P p : Nat} (hP : Per f S P) (p0 : 0 < p) (hd : P % p = 0) (P0 : 0 < P) : cyc f S P = (List.replicate (P / p) ((cyc f S P).take p)).flatten ↔ Per f S p := by
  have hp : p ≤ P := Nat.le_of_dvd P0 (Nat.dvd_of_mod_eq_zero hd)
  have := cyc_iff (l := cyc f S P) (p := p) (by rw [cyc_len]; exact hd) p0 (by rw [cyc_len]; exact hp)
  rw [cyc_len] at this
  rw [this, ← per_iff hP p0 hd P0]
  constructor
  · intro h i hi
    have := h i hi
    rw [cyc_at hi, cyc_at (Nat.lt_of_lt_of_le (Nat.mod_lt _ p0) hp)] at this
    exact Option.some.inj this
  · intro h i hi
    rw [cyc_at hi, cyc_at (Nat.lt_of_lt_of_le (Nat.mod_lt _ p0) hp), h i hi]
/-! ### sets as they are kept -/
/-- a set: its members, its shortest form -/
structure LS where
  f : Nat → Bool
  first : Nat
  size : Nat
  ok : Canon f first size
  b1 : first ≤ 5000
  b2 : size ≤ 5000
theorem LS.size_pos (s : LS) : 0 < s.size := s.ok.least.1
theorem LS.ext {s t : LS} (h : s.f = t.f) : s = t := by
  obtain ⟨f, a, p, h1, _, _⟩ := s
  obtain ⟨g, b, q, h2, _, _⟩ := t
  cases h
  obtain ⟨rfl, rfl⟩ := h1.unique h2
  rfl
theorem LS.same {s t : LS} (h1 : s.first = t.first) (h2 : s.size = t.size) (h3 : memL s.f s.first = memL t.f t.first) (h4 : tailL s.f s.first s.size = tailL t.f t.first t.size) : s = t := by
  refine LS.ext (funext fun n => ?_)
  rw [← hasN_back s.ok.per s.size_pos n, ← hasN_back t.ok.per t.size_pos n, h3, h4, h1, h2]
/-- every set that repeats in the end has a shortest form -/
theorem start_ex {f : Nat → Bool} {p : Nat} (hl : Least f p) : ∀ {N : Nat}, Per f N p → ∃ a, a ≤ N ∧ Canon f a p
  | 0, h => ⟨0, Nat.le_refl _, h, hl, .inl rfl⟩
  | N + 1, h => by
    by_cases e : f N = f (N + p)
    · have h' : Per f N p := fun n hn => by
        rcases Nat.eq_or_lt_of_le hn with rfl | l
        · exact e.symm
        · exact h n l
      obtain ⟨a, ha, hc⟩ := start_ex hl h'
      exact ⟨a, by omega, hc⟩
    · exact ⟨N + 1, Nat.le_refl _, h, hl, .inr e⟩
theorem canon_of {f : Nat → Bool} {N P a p : Nat} (P0 : 0 < P) (h : Per f N P) (b1 : N ≤ 5000) (b2 : P ≤ 5000) (hc : Canon f a p) (ha : a ≤ N) : ∃ s : LS, s.f = f ∧ s.first = a ∧ s.size = p :=
  have hd := hc.least.dvd hc.per h
  ⟨⟨f, a, p, hc, Nat.le_trans ha b1, Nat.le_trans (Nat.le_of_dvd P0 (Nat.dvd_of_mod_eq_zero hd)) b2⟩, rfl, rfl, rfl⟩
theorem canon_ex {f : Nat → Bool} {N P : Nat} (P0 : 0 < P) (h : Per f N P) (b1 : N ≤ 5000) (b2 : P ≤ 5000) : ∃ s : LS, s.f = f ∧ s.first ≤ N ∧ P % s.size = 0 := by
  obtain ⟨p, hl, M, hM⟩ := least_ex P0 h
  have d := h.down P0 hM
  obtain ⟨a, ha, hc⟩ := start_ex hl d
  obtain ⟨s, h1, h2, h3⟩ := canon_of P0 h b1 b2 hc ha
  exact ⟨s, h1, by omega, by rw [h3]; exact hl.dvd d h⟩
/-! ### operators -/
theorem Per.zip {f g : Nat → Bool} {N p : Nat} (o : Bool → Bool → Bool) (hf : Per f N p) (hg : Per g N p) : Per (fun n => o (f n) (g n)) N p := fun n hn => by
  show o (f (n + p)) (g (n + p)) = _
  rw [hf n hn, hg n hn]
theorem Per.not {f : Nat → Bool} {N p : Nat} (hf : Per f N p) : Per (fun n => !f n) N p := fun n hn => by
  show (!f (n + p)) = _
  rw [hf n hn]
theorem Per.dvd {f : Nat → Bool} {N p q : Nat} (hf : Per f N p) (h : q % p = 0) : Per f N q := by
  obtain ⟨k, hk⟩ := Nat.dvd_of_mod_eq_zero h
  rw [hk, Nat.mul_comm]
  exact hf.mul k
end Sm
namespace Sm
theorem spot_least {start p rest i : Nat} (p0 : 0 < p) (hr : rest < p) (h : start ≤ i) (e : i % p = rest) : spot start p rest ≤ i := by
  have hm : spot start p rest % p = i % p := by rw [spot_mod p0, Nat.mod_eq_of_lt hr, e]
  rcases Nat.lt_or_ge i (spot start p rest) with l | l
  · have hs := spot_lt (first := start) p0 rest
    have d : (spot start p rest - i) % p = 0 := Nat.sub_mod_eq_zero_of_mod_eq hm
    have := Nat.le_of_dvd (by omega) (Nat.dvd_of_mod_eq_zero d)
    omega
  · exact l
/-- the numbers that a rest's turns reach -/
theorem spot_run {start p rest i size : Nat} (p0 : 0 < p) (hr : rest < p) (hi : i < size) :
    (∃ k : Nat, k < (if spot start p rest < size then (size - spot start p rest - 1) / p + 1 else 0) ∧ spot start p rest + k * p = i) ↔ start ≤ i ∧ i % p = rest := by
  have hm : spot start p rest % p = rest := by rw [spot_mod p0, Nat.mod_eq_of_lt hr]
  constructor
  · rintro ⟨k, _, rfl⟩
    exact ⟨Nat.le_trans (spot_ge _ _ _) (Nat.le_add_right _ _), by rw [Nat.add_mul_mod_self_right, hm]⟩
  · rintro ⟨h, e⟩
    have l := spot_least p0 hr h e
    have d : (i - spot start p rest) % p = 0 := Nat.sub_mod_eq_zero_of_mod_eq (by rw [e, hm])
    refine ⟨(i - spot start p rest) / p, ?_, ?_⟩
    · rw [if_pos (by omega)]
      have : (i - spot start p rest) / p ≤ (size - spot start p rest - 1) / p := Nat.div_le_div_right (by omega)
      omega
    · have := Nat.div_mul_cancel (Nat.dvd_of_mod_eq_zero d)
      omega
end Sm

set_option Elab.async false
set_option linter.all false
set_option maxRecDepth 100000
set_option maxHeartbeats 4000000
namespace W
open PySem L2 A
local macro_rules | `(tactic| simp_arith [$ls,*]) => `(tactic| simp only [sSeq, sNext, sBind, sIf, sSet, sRet, sRetN, sDrop, sUn, sPar, sPar3, sPutL, sPutD, sFldD, sFldAugD, sFor, sMatch, sRaise, sRaise2, sNever, sBreak, sCont, sTry, hdl, hEnds, hEv, aXf, aBind, aOp, aVar, aC, aTest, aChain, aAnd, aOr, aNot, aAndV, aOrV, aNotV, aIf, aNeg, aNil, aCons, aStar, aTup, aLst, aLstM, aCB, aCall, aCallO, aFld, aMe, aPr, aMk, aItS, aRng1, aRng2, aRng3, aZip, aRaddO, sAugO, aCallK, aIsx, aEnum, aLc, aLcM, aLcR, aYes, aSl, oNo, oSo, aDGet, aDisp, aPairs, aAppend, aExtend, aPop, cxNil, cxIf, cxAny, gN, gsN, gsC, gT, gTL, asL, hd1, wipeD, slot, isL, fNil, fOr, dSub, dFdiv, dMod, dPow, dI2, dI20, dLt, dLe, dGt, dGe, dIs, dIn, dIx, dKdIn, dKdGet, fLen, fInt, fAbs, fMax2, fMin2, fI2, fMin1, fSum, fAny, fAll, fList, fListM, fTuple, fBool, fIsi, intsOf, boolsOf, subTy, defEnds, startD, putFD, Option.bind_some, Option.map_some, Option.bind_none, Option.map_none, List.map_cons, List.map_nil, List.length_cons, List.length_nil, List.replicate, List.cons_append, List.nil_append, List.append_nil, List.set_cons_zero, List.set_cons_succ, Nat.reduceAdd, Nat.reduceSub, List.any_cons, List.any_nil, List.all_cons, List.all_nil, decide_eq_true_eq, decide_eq_false_iff_not, Bool.not_eq_true', Bool.not_eq_false', bxf, bxt, ofString_inj, ofString_beq, String.reduceEq, String.reduceBEq, decide_true, decide_false, Bool.not_true, Bool.not_false, Bool.false_eq_true, reduceCtorEq, if_true, if_false, ite_true, ite_false, Bool.or_eq_true, Bool.and_eq_true, true_and, and_true, false_and, and_false, or_false, false_or, true_or, or_true, not_true_eq_false, not_false_eq_true, Bool.or_false, Bool.false_or, Bool.or_true, Bool.true_or, Bool.and_true, Bool.true_and, Bool.and_false, Bool.false_and, Int.cast_ofNat_Int, Int.natCast_one, Int.natCast_zero, Int.reduceEq, Int.reduceLT, Int.reduceLE, Int.reduceAdd, Int.reduceSub, Int.reduceMul, Int.reduceNeg, Int.reduceGT, Int.reduceGE, Nat.reduceLT, Nat.reduceLeDiff, Nat.reduceEqDiff, Int.reduceToNat, v_p10, v_opt_s, v_opt_n, v_asI_non, v_asI_bl, v_asI_int, v_asI_str, v_asI_tup, v_asI_lst, v_asI_obj, v_asI_ref, v_asI_ty, v_asI_cl, v_asI_adr, v_asI_scr, v_asB_non, v_asB_bl, v_asB_int, v_asB_str, v_asB_tup, v_asB_lst, v_asB_obj, v_asB_ref, v_asB_ty, v_asB_cl, v_asB_adr, v_asB_scr, v_asS_non, v_asS_bl, v_asS_int, v_asS_str, v_asS_tup, v_asS_lst, v_asS_obj, v_asS_ref, v_asS_ty, v_asS_cl, v_asS_adr, v_asS_scr, v_asT_non, v_asT_bl, v_asT_int, v_asT_str, v_asT_tup, v_asT_lst, v_asT_obj, v_asT_ref, v_asT_ty, v_asT_cl, v_asT_adr, v_asT_scr, v_asInt_non, v_asInt_bl, v_asInt_int, v_asInt_str, v_asInt_tup, v_asInt_lst, v_asInt_obj, v_asInt_ref, v_asInt_ty, v_asInt_cl, v_asInt_adr, v_asInt_scr, v_asBool_non, v_asBool_bl, v_asBool_int, v_asBool_str, v_asBool_tup, v_asBool_lst, v_asBool_obj, v_asBool_ref, v_asBool_ty, v_asBool_cl, v_asBool_adr, v_asBool_scr, v_isNon_non, v_isNon_bl, v_isNon_int, v_isNon_str, v_isNon_tup, v_isNon_lst, v_isNon_obj, v_isNon_ref, v_isNon_ty, v_isNon_cl, v_isNon_adr, v_isNon_scr, v_asTy_non, v_asTy_bl, v_asTy_int, v_asTy_str, v_asTy_tup, v_asTy_lst, v_asTy_obj, v_asTy_ref, v_asTy_ty, v_asTy_cl, v_asTy_adr, v_asTy_scr, v_refOf_non, v_refOf_bl, v_refOf_int, v_refOf_str, v_refOf_tup, v_refOf_lst, v_refOf_obj, v_refOf_ref, v_refOf_ty, v_refOf_cl, v_refOf_adr, v_refOf_scr, v_fv_non, v_fv_bl, v_fv_int, v_fv_str, v_fv_tup, v_fv_lst, v_fv_obj, v_fv_ref, v_fv_ty, v_fv_cl, v_fv_adr, v_fv_scr, v_fvL_non, v_fvL_bl, v_fvL_int, v_fvL_str, v_fvL_tup, v_fvL_lst, v_fvL_obj, v_fvL_ref, v_fvL_ty, v_fvL_cl, v_fvL_adr, v_fvL_scr, v_lv_non, v_lv_bl, v_lv_int, v_lv_str, v_lv_tup, v_lv_lst, v_lv_obj, v_lv_ty, v_lv_cl, v_lv_adr, v_lv_scr, v_sv_non, v_sv_bl, v_sv_int, v_sv_str, v_sv_tup, v_sv_lst, v_sv_obj, v_sv_ty, v_sv_cl, v_sv_adr, v_sv_scr, v_tyN_non, v_tyN_bl, v_tyN_int, v_tyN_str, v_tyN_tup, v_tyN_lst, v_tyN_obj, v_tyN_ty, v_tyN_cl, v_tyN_adr, v_tyN_scr, v_rd_non, v_rd_bl, v_rd_int, v_rd_str, v_rd_tup, v_rd_lst, v_rd_obj, v_rd_ty, v_rd_cl, v_rd_adr, v_rd_scr, v_lv_ref, v_sv_ref, v_one1, v_two2, v_three3, v_four4, v_five5, v_six6, v_dEq_int_int, v_dEq_str_str, v_dEq_bl_bl, v_dEq_non_non, v_dEq_int_non, v_dEq_non_int, v_dEq_str_non, v_dEq_non_str, v_dEq_int_str, v_dEq_str_int, v_dEq_tup, v_dEq_lst, v_dEq_ref, v_dEq_non_tup, v_dEq_non_lst, v_dEq_non_ref, v_dEq_bl_tup, v_dEq_bl_lst, v_dEq_bl_ref, v_dEq_int_tup, v_dEq_int_lst, v_dEq_int_ref, v_dEq_str_tup, v_dEq_str_lst, v_dEq_str_ref, v_dNe_int_int, v_dNe_str_str, v_dNe_bl_bl, v_dNe_non_non, v_dNe_int_non, v_dNe_non_int, v_dNe_str_non, v_dNe_non_str, v_dNe_int_str, v_dNe_str_int, v_dNe_tup, v_dNe_lst, v_dNe_ref, v_dNe_non_tup, v_dNe_non_lst, v_dNe_non_ref, v_dNe_bl_tup, v_dNe_bl_lst, v_dNe_bl_ref, v_dNe_int_tup, v_dNe_int_lst, v_dNe_int_ref, v_dNe_str_tup, v_dNe_str_lst, v_dNe_str_ref, v_dAdd_int, v_dAdd_tup, v_dAdd_lst, v_dAdd_ref, v_dMul_int, v_dMul_lst, v_dSl_tup, v_dSl_lst, v_dSl_ref, v_flt_non, v_flt_bl, v_flt_int, v_flt_str, v_flt_tup, v_flt_lst, v_flt_obj, v_flt_ref, v_flt_ty, v_flt_cl, v_flt_adr, v_flt_scr, v_eqv1_non_non, v_eqv1_non_bl, v_eqv1_non_int, v_eqv1_non_str, v_eqv1_bl_non, v_eqv1_bl_bl, v_eqv1_bl_str, v_eqv1_int_non, v_eqv1_int_int, v_eqv1_int_str, v_eqv1_str_non, v_eqv1_str_bl, v_eqv1_str_int, v_eqv1_str_str, v_at0, v_at1, v_at2, v_at3, v_at4, v_at5, v_at6, v_atm1, v_k_int, v_k_bool, v_k_str, v_k_tuple, v_k_list, v_k_dict, v_b0, v_b1, v_b2, v_b3, v_b4, v_b5, v_b6, v_b7, v_b8, v_b9, v_b10, v_b11, v_b12, v_al1, v_al2, v_al3, v_al4, v_al5, v_al6, v_al7, v_dMul_tup, v_lst_push, v_ins_push, v_insOf_push, v_set_push, A.gNil, gSeq, gBind, gIf, gYield, gFor, gPlain, aLG, aSm, aTruS, aSrtSet, aBin2, $ls,*])
local macro_rules | `(tactic| simp_arith) => `(tactic| simp only [sSeq, sNext, sBind, sIf, sSet, sRet, sRetN, sDrop, sUn, sPar, sPar3, sPutL, sPutD, sFldD, sFldAugD, sFor, sMatch, sRaise, sRaise2, sNever, sBreak, sCont, sTry, hdl, hEnds, hEv, aXf, aBind, aOp, aVar, aC, aTest, aChain, aAnd, aOr, aNot, aAndV, aOrV, aNotV, aIf, aNeg, aNil, aCons, aStar, aTup, aLst, aLstM, aCB, aCall, aCallO, aFld, aMe, aPr, aMk, aItS, aRng1, aRng2, aRng3, aZip, aRaddO, sAugO, aCallK, aIsx, aEnum, aLc, aLcM, aLcR, aYes, aSl, oNo, oSo, aDGet, aDisp, aPairs, aAppend, aExtend, aPop, cxNil, cxIf, cxAny, gN, gsN, gsC, gT, gTL, asL, hd1, wipeD, slot, isL, fNil, fOr, dSub, dFdiv, dMod, dPow, dI2, dI20, dLt, dLe, dGt, dGe, dIs, dIn, dIx, dKdIn, dKdGet, fLen, fInt, fAbs, fMax2, fMin2, fI2, fMin1, fSum, fAny, fAll, fList, fListM, fTuple, fBool, fIsi, intsOf, boolsOf, subTy, defEnds, startD, putFD, Option.bind_some, Option.map_some, Option.bind_none, Option.map_none, List.map_cons, List.map_nil, List.length_cons, List.length_nil, List.replicate, List.cons_append, List.nil_append, List.append_nil, List.set_cons_zero, List.set_cons_succ, Nat.reduceAdd, Nat.reduceSub, List.any_cons, List.any_nil, List.all_cons, List.all_nil, decide_eq_true_eq, decide_eq_false_iff_not, Bool.not_eq_true', Bool.not_eq_false', bxf, bxt, ofString_inj, ofString_beq, String.reduceEq, String.reduceBEq, decide_true, decide_false, Bool.not_true, Bool.not_false, Bool.false_eq_true, reduceCtorEq, if_true, if_false, ite_true, ite_false, Bool.or_eq_true, Bool.and_eq_true, true_and, and_true, false_and, and_false, or_false, false_or, true_or, or_true, not_true_eq_false, not_false_eq_true, Bool.or_false, Bool.false_or, Bool.or_true, Bool.true_or, Bool.and_true, Bool.true_and, Bool.and_false, Bool.false_and, Int.cast_ofNat_Int, Int.natCast_one, Int.natCast_zero, Int.reduceEq, Int.reduceLT, Int.reduceLE, Int.reduceAdd, Int.reduceSub, Int.reduceMul, Int.reduceNeg, Int.reduceGT, Int.reduceGE, Nat.reduceLT, Nat.reduceLeDiff, Nat.reduceEqDiff, Int.reduceToNat, v_p10, v_opt_s, v_opt_n, v_asI_non, v_asI_bl, v_asI_int, v_asI_str, v_asI_tup, v_asI_lst, v_asI_obj, v_asI_ref, v_asI_ty, v_asI_cl, v_asI_adr, v_asI_scr, v_asB_non, v_asB_bl, v_asB_int, v_asB_str, v_asB_tup, v_asB_lst, v_asB_obj, v_asB_ref, v_asB_ty, v_asB_cl, v_asB_adr, v_asB_scr, v_asS_non, v_asS_bl, v_asS_int, v_asS_str, v_asS_tup, v_asS_lst, v_asS_obj, v_asS_ref, v_asS_ty, v_asS_cl, v_asS_adr, v_asS_scr, v_asT_non, v_asT_bl, v_asT_int, v_asT_str, v_asT_tup, v_asT_lst, v_asT_obj, v_asT_ref, v_asT_ty, v_asT_cl, v_asT_adr, v_asT_scr, v_asInt_non, v_asInt_bl, v_asInt_int, v_asInt_str, v_asInt_tup, v_asInt_lst, v_asInt_obj, v_asInt_ref, v_asInt_ty, v_asInt_cl, v_asInt_adr, v_asInt_scr, v_asBool_non, v_asBool_bl, v_asBool_int, v_asBool_str, v_asBool_tup, v_asBool_lst, v_asBool_obj, v_asBool_ref, v_asBool_ty, v_asBool_cl, v_asBool_adr, v_asBool_scr, v_isNon_non, v_isNon_bl, v_isNon_int, v_isNon_str, v_isNon_tup, v_isNon_lst, v_isNon_obj, v_isNon_ref, v_isNon_ty, v_isNon_cl, v_isNon_adr, v_isNon_scr, v_asTy_non, v_asTy_bl, v_asTy_int, v_asTy_str, v_asTy_tup, v_asTy_lst, v_asTy_obj, v_asTy_ref, v_asTy_ty, v_asTy_cl, v_asTy_adr, v_asTy_scr, v_refOf_non, v_refOf_bl, v_refOf_int, v_refOf_str, v_refOf_tup, v_refOf_lst, v_refOf_obj, v_refOf_ref, v_refOf_ty, v_refOf_cl, v_refOf_adr, v_refOf_scr, v_fv_non, v_fv_bl, v_fv_int, v_fv_str, v_fv_tup, v_fv_lst, v_fv_obj, v_fv_ref, v_fv_ty, v_fv_cl, v_fv_adr, v_fv_scr, v_fvL_non, v_fvL_bl, v_fvL_int, v_fvL_str, v_fvL_tup, v_fvL_lst, v_fvL_obj, v_fvL_ref, v_fvL_ty, v_fvL_cl, v_fvL_adr, v_fvL_scr, v_lv_non, v_lv_bl, v_lv_int, v_lv_str, v_lv_tup, v_lv_lst, v_lv_obj, v_lv_ty, v_lv_cl, v_lv_adr, v_lv_scr, v_sv_non, v_sv_bl, v_sv_int, v_sv_str, v_sv_tup, v_sv_lst, v_sv_obj, v_sv_ty, v_sv_cl, v_sv_adr, v_sv_scr, v_tyN_non, v_tyN_bl, v_tyN_int, v_tyN_str, v_tyN_tup, v_tyN_lst, v_tyN_obj, v_tyN_ty, v_tyN_cl, v_tyN_adr, v_tyN_scr, v_rd_non, v_rd_bl, v_rd_int, v_rd_str, v_rd_tup, v_rd_lst, v_rd_obj, v_rd_ty, v_rd_cl, v_rd_adr, v_rd_scr, v_lv_ref, v_sv_ref, v_one1, v_two2, v_three3, v_four4, v_five5, v_six6, v_dEq_int_int, v_dEq_str_str, v_dEq_bl_bl, v_dEq_non_non, v_dEq_int_non, v_dEq_non_int, v_dEq_str_non, v_dEq_non_str, v_dEq_int_str, v_dEq_str_int, v_dEq_tup, v_dEq_lst, v_dEq_ref, v_dEq_non_tup, v_dEq_non_lst, v_dEq_non_ref, v_dEq_bl_tup, v_dEq_bl_lst, v_dEq_bl_ref, v_dEq_int_tup, v_dEq_int_lst, v_dEq_int_ref, v_dEq_str_tup, v_dEq_str_lst, v_dEq_str_ref, v_dNe_int_int, v_dNe_str_str, v_dNe_bl_bl, v_dNe_non_non, v_dNe_int_non, v_dNe_non_int, v_dNe_str_non, v_dNe_non_str, v_dNe_int_str, v_dNe_str_int, v_dNe_tup, v_dNe_lst, v_dNe_ref, v_dNe_non_tup, v_dNe_non_lst, v_dNe_non_ref, v_dNe_bl_tup, v_dNe_bl_lst, v_dNe_bl_ref, v_dNe_int_tup, v_dNe_int_lst, v_dNe_int_ref, v_dNe_str_tup, v_dNe_str_lst, v_dNe_str_ref, v_dAdd_int, v_dAdd_tup, v_dAdd_lst, v_dAdd_ref, v_dMul_int, v_dMul_lst, v_dSl_tup, v_dSl_lst, v_dSl_ref, v_flt_non, v_flt_bl, v_flt_int, v_flt_str, v_flt_tup, v_flt_lst, v_flt_obj, v_flt_ref, v_flt_ty, v_flt_cl, v_flt_adr, v_flt_scr, v_eqv1_non_non, v_eqv1_non_bl, v_eqv1_non_int, v_eqv1_non_str, v_eqv1_bl_non, v_eqv1_bl_bl, v_eqv1_bl_str, v_eqv1_int_non, v_eqv1_int_int, v_eqv1_int_str, v_eqv1_str_non, v_eqv1_str_bl, v_eqv1_str_int, v_eqv1_str_str, v_at0, v_at1, v_at2, v_at3, v_at4, v_at5, v_at6, v_atm1, v_k_int, v_k_bool, v_k_str, v_k_tuple, v_k_list, v_k_dict, v_b0, v_b1, v_b2, v_b3, v_b4, v_b5, v_b6, v_b7, v_b8, v_b9, v_b10, v_b11, v_b12, v_al1, v_al2, v_al3, v_al4, v_al5, v_al6, v_al7, v_dMul_tup, v_lst_push, v_ins_push, v_insOf_push, v_set_push, A.gNil, gSeq, gBind, gIf, gYield, gFor, gPlain, aLG, aSm, aTruS, aSrtSet, aBin2])
def topS (i : Nat) : Stmt := PySem.Challenge.pw_withinlimits_k54_fronts_side_by_side.main.body.getD i (.Pass ⟨0, 0, 0, 0⟩)
/-- the built-in names that the text does not bind -/
structure Bn (mg : Str → Option Value) : Prop where
  len : mg "len" = none
  abs : mg "abs" = none
  int : mg "int" = none
  str : mg "str" = none
  range : mg "range" = none
  list : mg "list" = none
  tuple : mg "tuple" = none
  dict : mg "dict" = none
  sum : mg "sum" = none
  isinstance : mg "isinstance" = none
  enumerate : mg "enumerate" = none
  zip : mg "zip" = none
  max : mg "max" = none
  min : mg "min" = none
  bool : mg "bool" = none
  any : mg "any" = none
  all : mg "all" = none
  sorted : mg "sorted" = none
  set : mg "set" = none
/-- a def of the text's top as it stands -/
structure Dfn (K : PySem.W.Frag) (mg : Str → Option Value) (x : Str) (st : Stmt) (ps : List Str) (f : Addr) (fd : FuncData) : Prop where
  F : FunG K x x st f fd
  m : mg x = some (.ref f)
  b : Binds K fd ps []
theorem Dfn.fnc {P : Program} {w : World} {K : PySem.W.Frag} {mg : Str → Option Value} {base : Heap} {k : Nat} {x : Str} {st : Stmt} {ps : List Str} {f : Addr} {fd : FuncData} {sp : Sp} (D : Dfn K mg x st ps f fd) (F : FnOk P w K mg base (L2N.CX P w) k f fd ps sp) : Fnc P w K mg base k x sp := fnc_of F D.b D.m D.F.kp
theorem Dfn.never {P : Program} {w : World} {K : PySem.W.Frag} {mg : Str → Option Value} {base : Heap} {k : Nat} {x : Str} {st : Stmt} {ps : List Str} {f : Addr} {fd : FuncData} {c : Cg} {sp : ASp} (D : Dfn K mg x st ps f fd) (no : ∀ ds S Q E, ¬ sp ds S Q E) : Fnc P w K mg base k x (upSp c sp) :=
  D.fnc ⟨fun vs H Q E ⟨_, S, ds, Q', E', _, _, h, _⟩ => absurd h (no ds S Q' E'), fun A outer s H args us vs Q E _ _ _ _ ⟨_, S, ds, Q', E', _, _, h, _⟩ => absurd h (no ds S Q' E')⟩

/-! ### the script's numbers -/
def PlO (o : O) : Prop := ∃ a b : Int, o = .lst [.int a, .int b] ∧ 0 ≤ a ∧ 0 ≤ b ∧ b < 2147483647
/-- a pool stands at m -/
def Pl (S : Sto) (m : Nat) : Prop := ∃ o, S[m]? = some o ∧ PlO o
/-- all but the objects of ms stay -/
def Chg (ms : List Nat) (S S' : Sto) : Prop := S'.length = S.length ∧ ∀ k, k ∉ ms → S'[k]? = S[k]?
theorem Chg.refl (ms : List Nat) (S : Sto) : Chg ms S S := ⟨rfl, fun _ _ => rfl⟩
theorem Chg.trans {ms : List Nat} {S S1 S2 : Sto} (a : Chg ms S S1) (b : Chg ms S1 S2) : Chg ms S S2 := ⟨b.1.trans a.1, fun k hk => (b.2 k hk).trans (a.2 k hk)⟩
theorem Chg.up {ms ns : List Nat} {S S1 : Sto} (a : Chg ms S S1) (h : ∀ k ∈ ms, k ∈ ns) : Chg ns S S1 := ⟨a.1, fun k hk => a.2 k fun z => hk (h k z)⟩
theorem Chg.at {S : Sto} {m : Nat} {o : O} : Chg [m] S (S.set m o) := ⟨by simp, fun k hk => by rw [List.getElem?_set_ne (fun e => hk (by simp [e]))]⟩
theorem lstAt_of {S : Sto} {m : Nat} {xs : List A.D} (h : S[m]? = some (.lst xs)) : lstAt S m = some xs := by unfold lstAt; rw [h]
theorem Pl.set {S : Sto} {m : Nat} {o : O} (h : Pl S m) (ho : PlO o) : Pl (S.set m o) m := by
  obtain ⟨o', e, _⟩ := h
  exact ⟨o, by rw [List.getElem?_set_self (List.getElem?_eq_some_iff.mp e).1], ho⟩
abbrev s_pool : Stmt := (topS 25)
theorem sc_pool : FnScope ["script", "k", "cell", "size", "seed"] ["script", "k"] (defScope s_pool) := ⟨rfl, rfl, rfl, by decide +kernel, rfl, by decide +kernel, by decide +kernel⟩
abbrev s_draw : Stmt := (topS 26)
theorem sc_draw : FnScope ["pool", "count", "found"] ["pool", "count"] (defScope s_draw) := ⟨rfl, rfl, rfl, by decide +kernel, rfl, by decide +kernel, by decide +kernel⟩
def spPool : ASp := fun ds S Q _ => opt (two2 ds) fun p => ∃ (ns : List Int) (k : Nat), p = (.scr ns, .int k) ∧ k ≤ 1000 ∧ ∀ o, PlO o → Q (.ref S.length) (S ++ [o])
def spDraw : ASp := fun ds S Q _ => opt (two2 ds) fun p => ∃ (m : Nat) (c : Int), p = (.ref m, .int c) ∧ Pl S m ∧ 0 < c ∧ c < 1073741824 ∧ ∀ (r : Int) S', 0 ≤ r → r < c → Chg [m] S S' → Pl S' m → Q (.int r) S'
theorem big2 {n : Nat} (h : n ≤ 1000000) : n ≤ big := Nat.le_trans h (by decide)
theorem mulS {i j : Int} (h : -(2 ^ 64) < j ∧ j < 2 ^ 64) : mulOk i j := .inl (.inr h)
theorem mulL {i j : Int} (h : -(2 ^ 64) < i ∧ i < 2 ^ 64) : mulOk i j := .inl (.inl h)
section
variable {P : Program} {w : World} {K : PySem.W.Frag} {cA : Str → Addr} {mg : Str → Option Value} {base : Heap} {f : Addr} {fd : FuncData}
theorem d_pool (D : Dfn K mg "_law_pool" s_pool ["script", "k"] f fd) (T : Bn mg) : Fnc P w K mg base 1 "_law_pool" (upSp ⟨K, cA⟩ spPool) := by
  refine D.fnc (def_ok (k := 0) D.F sc_pool (fun cdv A outer s H E hr => (js_cons (js_set (i := 2) sc_pool.nd rfl (Or.inl rfl) j_int)
    (js_cons (js_if (jt_cmp op_lt os_lt (jv 1) (j_callB (kcall_len_seq K) cs_len (by rfl) T.len (by decide +kernel) (ja_cons (jv 0) ja_nil)) (nomark _))
      (js_one (js_set (i := 2) sc_pool.nd rfl (Or.inl rfl) (j_ix (kix_lt K) os_ix (jv 0) (jv 1) (fun _ _ => rfl))))
      js_nil)
    (js_cons (js_set (i := 3) sc_pool.nd rfl (Or.inl rfl) (j_callB call_abs cs_abs (by rfl) T.abs (by decide +kernel) (ja_cons (jv 2) ja_nil)))
    (js_cons (js_set (i := 4) sc_pool.nd rfl (Or.inl rfl) (j_op op_mod os_mod (j_op (op_mulB K) os_mul (j_op (op_addA K) os_add (j_op (op_addA K) os_add (j_op op_mod os_mod (jv 3) j_int) (j_op (op_mulB K) os_mul j_int (jv 1))) j_int) j_int) j_int))
    (js_one (js_ret (j_lstM (ja_cons (j_op (op_mulB K) os_mul (jv 3) (j_callTy call_int1 cs_int (by rfl) T.int (by decide +kernel) (ja_cons (j_cmp op_ge os_ge (jv 3) (j_op op_pow os_pow j_int j_int) (nomark _)) ja_nil))) (ja_cons (jv 4) ja_nil)))))))))) ?_ ?_)
  · intro ds S Q E h
    obtain ⟨a, b, rfl, _⟩ := opt_two h
    rfl
  · intro ds S Q E h
    obtain ⟨a, b, rfl, ns, k, e, hk, q⟩ := opt_two h
    cases e
    simp_arith
    have go : ∀ z : Int, 0 ≤ z → mulOk 7919 (k : Int) ∧ mulOk (z % 2147483629 + 7919 * (k : Int) + 31) 48271 ∧ mulOk z (if 10 ^ 18 ≤ z then 1 else 0) ∧
        Q (A.D.ref (List.length S)) (S ++ [O.lst [A.D.int (z * if 10 ^ 18 ≤ z then 1 else 0), A.D.int ((z % 2147483629 + 7919 * (k : Int) + 31) * 48271 % 2147483647)]]) := by
      intro z hz
      refine ⟨mulL (by decide), mulS (by decide), mulS (by split <;> decide), q _ ⟨_, _, rfl, ?_, ?_, ?_⟩⟩
      · split <;> omega
      · exact Int.emod_nonneg _ (by decide)
      · exact Int.emod_lt_of_pos _ (by decide)
    split
    · rename_i hl
      have hl' : k < ns.length := by simpa using hl
      have e : atI (ns.map A.D.int) (k : Int) = some (.int (ns[k])) := atD (by rw [List.getElem?_map, List.getElem?_eq_getElem hl']; rfl)
      rw [e]
      simp_arith
      have := go (if ns[k] < 0 then -ns[k] else ns[k]) (by split <;> omega)
      exact this
    · exact go 0 (by decide)
theorem d_draw (D : Dfn K mg "_law_draw" s_draw ["pool", "count"] f fd) (T : Bn mg) : Fnc P w K mg base 1 "_law_draw" (upSp ⟨K, cA⟩ spDraw) := by
  refine D.fnc (def_ok (k := 0) D.F sc_draw (fun cdv A outer s H E hr => (js_cons (js_if (jt_cmp op_gt os_gt (j_ix (kix_lt K) os_ix (jv 0) j_int (fun _ _ => rfl)) j_int (nomark _))
      (js_cons (js_set (i := 2) sc_draw.nd rfl (Or.inl rfl) (j_op op_mod os_mod (j_callTy call_int1 cs_int (by rfl) T.int (by decide +kernel) (ja_cons (j_ix (kix_lt K) os_ix (jv 0) j_int (fun _ _ => rfl)) ja_nil)) (jv 1)))
      (js_cons (js_putL (jv 0) j_int (j_op op_fdiv os_fdiv (j_callTy call_int1 cs_int (by rfl) T.int (by decide +kernel) (ja_cons (j_ix (kix_lt K) os_ix (jv 0) j_int (fun _ _ => rfl)) ja_nil)) (jv 1)))
      (js_one (js_ret (jv 2)))))
      js_nil)
    (js_cons (js_putL (jv 0) j_int (j_op op_mod os_mod (j_callTy call_int1 cs_int (by rfl) T.int (by decide +kernel) (ja_cons (j_op (op_addA K) os_add (j_op (op_mulB K) os_mul (j_ix (kix_lt K) os_ix (jv 0) j_int (fun _ _ => rfl)) j_int) j_int) ja_nil)) j_int))
    (js_one (js_ret (j_op op_mod os_mod (j_callTy call_int1 cs_int (by rfl) T.int (by decide +kernel) (ja_cons (j_op op_fdiv os_fdiv (j_op op_mod os_mod (j_callTy call_int1 cs_int (by rfl) T.int (by decide +kernel) (ja_cons (j_op (op_mulB K) os_mul (j_ix (kix_lt K) os_ix (jv 0) j_int (fun _ _ => rfl)) (j_ix (kix_lt K) os_ix (jv 0) j_int (fun _ _ => rfl))) ja_nil)) j_int) j_int) ja_nil)) (jv 1))))))) ?_ ?_)
  · intro ds S Q E h
    obtain ⟨a, b, rfl, _⟩ := opt_two h
    rfl
  · intro ds S Q E h
    obtain ⟨a, b, rfl, m, c, e, hp, c0, c1, q⟩ := opt_two h
    cases e
    obtain ⟨o, eo, x, y, rfl, hx, hy, hy'⟩ := id hp
    have hm : m < S.length := (List.getElem?_eq_some_iff.mp eo).1
    have i0 : ∀ u v : A.D, atI [u, v] 0 = some u := fun u v => rfl
    have i1 : ∀ u v : A.D, atI [u, v] 1 = some v := fun u v => rfl
    have x0 : ixN 2 0 = some 0 := rfl
    have x1 : ixN 2 1 = some 1 := rfl
    have l1 : ∀ o, (S.set m o)[m]? = some o := fun o => by rw [List.getElem?_set_self hm]
    simp_arith [lstAt_of eo, i0, i1, x0, x1]
    split
    · rename_i hpos
      refine ⟨c0, ⟨c0, by omega⟩, ?_⟩
      exact q _ _ (Int.emod_nonneg _ (by omega)) (Int.emod_lt_of_pos _ c0) Chg.at (hp.set ⟨x / c, y, rfl, Int.ediv_nonneg hx (by omega), hy, hy'⟩)
    · refine ⟨mulS (by decide), ?_⟩
      rw [lstAt_of (l1 _)]
      simp_arith [i0, i1]
      refine ⟨mulS ?_, c0, ?_⟩
      · have h1 := Int.emod_nonneg (y * 48271 + 11) (show (2147483647 : Int) ≠ 0 by decide)
        have h2 := Int.emod_lt_of_pos (y * 48271 + 11) (show (0 : Int) < 2147483647 by decide)
        omega
      · refine q _ _ (Int.emod_nonneg _ (by omega)) (Int.emod_lt_of_pos _ c0) Chg.at (hp.set ⟨x, _, rfl, hx, ?_, ?_⟩)
        · exact Int.emod_nonneg _ (by decide)
        · exact Int.emod_lt_of_pos _ (by decide)
end
theorem known_mem : "int" ∈ tyKnown ∧ "bool" ∈ tyKnown ∧ "str" ∈ tyKnown ∧ "tuple" ∈ tyKnown ∧ "list" ∈ tyKnown := by decide


open Sm
/-! ### the arguments of a set -/
abbrev s_count : Stmt := (topS 8)
theorem sc_count : FnScope ["thing"] ["thing"] (defScope s_count) := ⟨rfl, rfl, rfl, by decide +kernel, rfl, by decide +kernel, by decide +kernel⟩
abbrev s_asc : Stmt := (topS 9)
theorem sc_asc : FnScope ["row", "bound", "before", "item"] ["row", "bound"] (defScope s_asc) := ⟨rfl, rfl, rfl, by decide +kernel, rfl, by decide +kernel, by decide +kernel⟩
abbrev s_check : Stmt := (topS 10)
theorem sc_check : FnScope ["early", "start", "period", "rests"] ["early", "start", "period", "rests"] (defScope s_check) := ⟨rfl, rfl, rfl, by decide +kernel, rfl, by decide +kernel, by decide +kernel⟩
def isCnt : A.D → Bool
  | .int i => decide (0 ≤ i)
  | _ => false
def numI : A.D → Int
  | .int i => i
  | _ => 0
def ascL (b : Int) : List A.D → Int → Bool
  | [], _ => true
  | d :: r, bef => isCnt d && (decide (bef < numI d) && (decide (numI d < b) && ascL b r (numI d)))
theorem ascL_int {b j bef : Int} {r : List A.D} : ascL b (.int j :: r) bef = (decide (0 ≤ j) && (decide (bef < j) && (decide (j < b) && ascL b r j))) := rfl
def sqOf : A.D → Option (List A.D)
  | .lst xs => some xs
  | .tup xs => some xs
  | _ => none
def isAsc (b : Int) (d : A.D) : Bool := match sqOf d with
  | some xs => ascL b xs (-1)
  | none => false
/-- the first wrong argument: too large or no set, and its name -/
def wrongSet (e s p r : A.D) : Option (Bool × Str) :=
  if isCnt s = false then some (false, "start") else if 5000 < numI s then some (true, "start")
  else if isCnt p = false ∨ numI p = 0 then some (false, "period") else if 5000 < numI p then some (true, "period")
  else if isAsc (numI s) e = false then some (false, "early") else if isAsc (numI p) r = false then some (false, "rests") else none
def setExc : Bool × Str → Exc
  | (false, x) => ⟨"NoSet", ["place"], [.str x]⟩
  | (true, x) => ⟨"TooLarge", ["limit"], [.str x]⟩
def spCount : ASp := fun ds S Q _ => opt (one1 ds) fun d => isPd d = true ∧ Q (.bl (isCnt d)) S
def spAsc : ASp := fun ds S Q _ => opt (two2 ds) fun p => isPd p.1 = true ∧ ∃ b : Int, p.2 = .int b ∧ Q (.bl (isAsc b p.1)) S
def spCheck : ASp := fun ds S Q E => opt (four4 ds) fun q => ∃ e s p r, q = (e, s, p, r) ∧ isPd e = true ∧ isPd s = true ∧ isPd p = true ∧ isPd r = true ∧ (wrongSet e s p r = none → Q .non S) ∧ ∀ y, wrongSet e s p r = some y → E (setExc y) S
theorem cnt_int {d : A.D} (h : ¬ isCnt d = false) : ∃ j, d = .int j ∧ 0 ≤ j := by
  cases d with
  | int j => exact ⟨j, rfl, by simpa [isCnt] using h⟩
  | _ => exact absurd rfl h
section
variable {P : Program} {w : World} {K : PySem.W.Frag} {cA : Str → Addr} {mg : Str → Option Value} {base : Heap} {f : Addr} {fd : FuncData}
theorem d_count (D : Dfn K mg "is_count" s_count ["thing"] f fd) (T : Bn mg) : Fnc P w K mg base 1 "is_count" (upSp ⟨K, cA⟩ spCount) := by
  refine D.fnc (def_ok (k := 0) D.F sc_count (fun cdv A outer s H E hr => (js_one (js_ret (j_and (j_callB (kcall_isi K) cs_isi (by rfl) T.isinstance (by decide +kernel) (ja_cons (jv 0) (ja_cons (j_gty (T := "int") (by rfl) T.int (by decide +kernel)) ja_nil))) (j_and (j_not (j_callB (kcall_isi K) cs_isi (by rfl) T.isinstance (by decide +kernel) (ja_cons (jv 0) (ja_cons (j_gty (T := "bool") (by rfl) T.bool (by decide +kernel)) ja_nil)))) (j_one (j_cmp op_ge os_ge (jv 0) j_int (nomark _)))))))) ?_ ?_)
  · intro ds S Q E h
    obtain ⟨a, rfl, _⟩ := opt_one h
    rfl
  · intro ds S Q E h
    obtain ⟨d, rfl, hd, q⟩ := opt_one h
    simp_arith
    cases d <;> first
      | (simp [isPd] at hd; done)
      | (simp_arith [known_mem, isCnt, String.reduceBEq]; simpa [isCnt, known_mem] using q)
theorem d_asc (D : Dfn K mg "is_ascending" s_asc ["row", "bound"] f fd) (T : Bn mg) (cK : Fnc P w K mg base 1 "is_count" (upSp ⟨K, cA⟩ spCount)) : Fnc P w K mg base 2 "is_ascending" (upSp ⟨K, cA⟩ spAsc) := by
  refine D.fnc (def_ok (k := 1) D.F sc_asc (fun cdv A outer s H E hr => (js_cons (js_if (jt_not (jt_val (j_callB (kcall_isiA K) cs_isiT (by rfl) T.isinstance (by decide +kernel) (ja_cons (jv 0) (ja_cons (j_tup (ja_cons (j_gty (T := "list") (by rfl) T.list (by decide +kernel)) (ja_cons (j_gty (T := "tuple") (by rfl) T.tuple (by decide +kernel)) ja_nil))) ja_nil)))))
      (js_one (js_ret j_bl))
      js_nil)
    (js_cons (js_set (i := 2) sc_asc.nd rfl (Or.inl rfl) (j_neg j_int))
    (js_cons (js_for (vs := [0, 1, 2, 3]) (gl_name (i := 3) (by decide)) (passes_of rfl) rfl (ji_seq (jv 0)) (pg_name (i := 3) sc_asc.nd rfl (Or.inl rfl))
      (js_cons (js_if (JW.jt (jw_or (jt_not (jt_val (j_fc cK hr (by omega) rfl (L2N.passAt (L2N.takes_of rfl rfl rfl rfl)) (ja_cons (jv 3) ja_nil)))) (jw_or (jt_cmp op_le os_le (jv 3) (jv 2) (nomark _)) (jw_or1 (jt_cmp op_ge os_ge (jv 3) (jv 1) (nomark _))))))
        (js_one (js_ret j_bl))
        js_nil)
      (js_one (js_set (i := 2) sc_asc.nd rfl (Or.inl rfl) (jv 3)))))
    (js_one (js_ret j_bl)))))) ?_ ?_)
  · intro ds S Q E h
    obtain ⟨a, b, rfl, _⟩ := opt_two h
    rfl
  · intro ds S Q E h
    obtain ⟨d, x2, rfl, hd, b, rfl, q⟩ := opt_two h
    clear h
    have go : ∀ (xs : List A.D), isPds xs = true → fv d = some xs → (∀ S', S' = S → Q (.bl (ascL b xs (-1))) S') → ∀ N : Ev → Sto → Prop,
        (∀ ρ S', sSeq (sSet (aNeg (aC (A.D.int 1))) 2) (sSeq (sFor (aItS (aVar 0)) (gN 3) (sSeq (sIf (aOr (aNot (aTest (aCall spCount (aCons (aVar 3) aNil)))) (aOr (aTest (aOp dLe (aVar 3) (aVar 2))) (aTest (aOp dGe (aVar 3) (aVar 1))))) (sRet (aC (A.D.bl false))) sNext) (sSet (aVar 3) 2))) (sRet (aC (A.D.bl true)))) (defEnds Q E) ρ S' → N ρ S') →
        N [some d, some (A.D.int b), none, none] S := by
      intro xs hp hfv q N hN
      refine hN _ _ ?_
      simp_arith [hfv]
      refine forX_by (fun r ρ S' => ∃ (bef : Int) (o : Option A.D), ρ = [some d, some (.int b), some (.int bef), o] ∧ S' = S ∧ isPds r = true ∧ ascL b xs (-1) = ascL b r bef) ?_ ?_ ⟨-1, none, rfl, rfl, hp, rfl⟩
      · rintro ρ S' ⟨bef, o, rfl, rfl, _, e⟩
        have := q S' rfl
        rw [e] at this
        exact this
      · rintro x r ρ S' ⟨bef, o, rfl, rfl, hpr, e⟩ F hF
        have hx : isPd x = true ∧ isPds r = true := by simpa [isPds] using hpr
        simp_arith [spCount]
        refine ⟨hx.1, ?_⟩
        have qf : ascL b (x :: r) bef = false → Q (.bl false) S' := fun z => by
          have := q S' rfl
          rw [e, z] at this
          exact this
        by_cases c0 : isCnt x = false
        · rw [if_pos c0]
          exact qf (by simp [ascL, c0])
        rw [if_neg c0]
        obtain ⟨j, rfl, hj⟩ := cnt_int c0
        simp_arith
        have hj' : isCnt (.int j) = true := by simpa using c0
        split
        · exact qf (by rw [ascL_int, decide_eq_false (show ¬ bef < j by omega)]; simp)
        · split
          · exact qf (by rw [ascL_int, decide_eq_false (show ¬ j < b by omega)]; simp)
          · exact hF _ _ ⟨j, _, rfl, rfl, hx.2, e.trans (by
              rw [ascL_int, decide_eq_true hj, decide_eq_true (show bef < j by omega), decide_eq_true (show j < b by omega)]
              simp)⟩
    have key : isPd d = true → Q (.bl (isAsc b d)) S → ∀ N1 : Ev → Sto → Prop, (∀ xs, isPds xs = true → fv d = some xs → isAsc b d = ascL b xs (-1) → N1 [some d, some (.int b), none, none] S) → fIsiT [d, A.D.tup [A.D.ty "list", A.D.ty "tuple"]] S fun a S1 =>
        opt (asB a) fun c => if c = false then Q (A.D.bl false) S1 else N1 [some d, some (A.D.int b), none, none] S1 := by
      intro hd q N1 hN
      cases d <;> first
        | (simp [isPd] at hd; done)
        | (simp_arith [fIsiT, tysOf, List.mapM_cons, List.mapM_nil, known_mem, String.reduceBEq, List.any_cons, List.any_nil, List.forall_mem_cons, List.not_mem_nil, Option.pure_def, Option.bind_eq_bind]
           first
             | exact ⟨fun _ z => z.elim, q⟩
             | exact ⟨fun _ z => z.elim, hN _ (by simpa [isPd] using hd) rfl rfl⟩)
    refine seq_by fun N1 hN1 => ?_
    simp_arith
    refine key hd q N1 fun xs h1 h2 h3 => go xs h1 h2 (fun S' e => ?_) N1 hN1
    subst e
    rw [← h3]
    exact q
theorem d_check (D : Dfn K mg "check_set" s_check ["early", "start", "period", "rests"] f fd) (T : Bn mg) {tk : Tok} (gMost : mg "MOST" = some (.int 5000 tk)) (xNoSet : XCls P K mg "NoSet" (cA "NoSet") "place") (xTooLarge : XCls P K mg "TooLarge" (cA "TooLarge") "limit")
    (cK : Fnc P w K mg base 1 "is_count" (upSp ⟨K, cA⟩ spCount)) (cA1 : Fnc P w K mg base 2 "is_ascending" (upSp ⟨K, cA⟩ spAsc)) : Fnc P w K mg base 3 "check_set" (upSp ⟨K, cA⟩ spCheck) := by
  refine D.fnc (def_ok (k := 2) D.F sc_check (fun cdv A outer s H E hr => (js_cons (js_if (jt_not (jt_val (j_fc cK hr (by omega) rfl (L2N.passAt (L2N.takes_of rfl rfl rfl rfl)) (ja_cons (jv 1) ja_nil))))
      (js_one (js_raise (C := "NoSet") rfl xNoSet hr (L2N.takes_of rfl rfl rfl rfl) (ja_cons j_str ja_nil)))
      js_nil)
    (js_cons (js_if (jt_cmp op_gt os_gt (jv 1) (j_gint (by rfl) gMost) (nomark _))
      (js_one (js_raise (C := "TooLarge") rfl xTooLarge hr (L2N.takes_of rfl rfl rfl rfl) (ja_cons j_str ja_nil)))
      js_nil)
    (js_cons (js_if (JW.jt (jw_or (jt_not (jt_val (j_fc cK hr (by omega) rfl (L2N.passAt (L2N.takes_of rfl rfl rfl rfl)) (ja_cons (jv 2) ja_nil)))) (jw_or1 (jt_cmp (op_eqA K hr.units) os_eq (jv 2) j_int (nomark _)))))
      (js_one (js_raise (C := "NoSet") rfl xNoSet hr (L2N.takes_of rfl rfl rfl rfl) (ja_cons j_str ja_nil)))
      js_nil)
    (js_cons (js_if (jt_cmp op_gt os_gt (jv 2) (j_gint (by rfl) gMost) (nomark _))
      (js_one (js_raise (C := "TooLarge") rfl xTooLarge hr (L2N.takes_of rfl rfl rfl rfl) (ja_cons j_str ja_nil)))
      js_nil)
    (js_cons (js_if (jt_not (jt_val (j_fc cA1 hr (by omega) rfl (L2N.passAt (L2N.takes_of rfl rfl rfl rfl)) (ja_cons (jv 0) (ja_cons (jv 1) ja_nil)))))
      (js_one (js_raise (C := "NoSet") rfl xNoSet hr (L2N.takes_of rfl rfl rfl rfl) (ja_cons j_str ja_nil)))
      js_nil)
    (js_one (js_if (jt_not (jt_val (j_fc cA1 hr (by omega) rfl (L2N.passAt (L2N.takes_of rfl rfl rfl rfl)) (ja_cons (jv 3) (ja_cons (jv 2) ja_nil)))))
      (js_one (js_raise (C := "NoSet") rfl xNoSet hr (L2N.takes_of rfl rfl rfl rfl) (ja_cons j_str ja_nil)))
      js_nil)))))))) ?_ ?_)
  · intro ds S Q E h
    obtain ⟨a, b, c, d, rfl, _⟩ := opt_four h
    rfl
  · intro ds S Q E h
    obtain ⟨e, s, p, r, rfl, e', s', p', r', eq, he, hs, hp, hr', q, qe⟩ := opt_four h
    clear h
    cases eq
    unfold wrongSet at q qe
    simp_arith [spCount, spAsc]
    refine ⟨hs, ?_⟩
    by_cases c1 : isCnt s = false
    · rw [if_pos c1]
      exact qe _ (if_pos c1)
    rw [if_neg c1] at q qe ⊢
    obtain ⟨s0, rfl, hs0⟩ := cnt_int c1
    simp_arith
    have ns : numI (.int s0) = s0 := rfl
    rw [ns] at q qe
    by_cases c2 : 5000 < s0
    · rw [if_pos c2]
      exact qe _ (if_pos c2)
    rw [if_neg c2] at q qe ⊢
    refine ⟨hp, ?_⟩
    by_cases c3 : isCnt p = false
    · rw [if_pos c3]
      exact qe _ (if_pos (.inl c3))
    rw [if_neg c3]
    obtain ⟨p0, rfl, hp0⟩ := cnt_int c3
    have np : numI (.int p0) = p0 := rfl
    rw [np] at q qe
    simp_arith
    by_cases c4 : p0 = 0
    · rw [if_pos c4]
      exact qe _ (if_pos (.inr c4))
    rw [if_neg (fun z => z.elim c3 c4)] at q qe
    rw [if_neg c4]
    by_cases c5 : 5000 < p0
    · rw [if_pos c5]
      exact qe _ (if_pos c5)
    rw [if_neg c5] at q qe ⊢
    refine ⟨he, s0, rfl, ?_⟩
    by_cases c6 : isAsc s0 e = false
    · rw [if_pos c6]
      exact qe _ (if_pos c6)
    rw [if_neg c6] at q qe ⊢
    refine ⟨hr', p0, rfl, ?_⟩
    by_cases c7 : isAsc p0 r = false
    · rw [if_pos c7]
      exact qe _ (if_pos c7)
    rw [if_neg c7] at q qe ⊢
    exact q rfl
end


open Sm
/-! ### flags, the shortest form -/
abbrev s_flags : Stmt := (topS 11)
theorem sc_flags : FnScope ["early", "start", "period", "rests", "size", "flags", "number", "rest"] ["early", "start", "period", "rests", "size"] (defScope s_flags) := ⟨rfl, rfl, rfl, by decide +kernel, rfl, by decide +kernel, by decide +kernel⟩
abbrev s_sper : Stmt := (topS 12)
theorem sc_sper : FnScope ["cycle", "size", "period"] ["cycle"] (defScope s_sper) := ⟨rfl, rfl, rfl, by decide +kernel, rfl, by decide +kernel, by decide +kernel⟩
abbrev s_short : Stmt := (topS 13)
theorem sc_short : FnScope ["flags", "start", "period"] ["flags", "start"] (defScope s_short) := ⟨rfl, rfl, rfl, by decide +kernel, rfl, by decide +kernel, by decide +kernel⟩
open Sm
def Dt (k : Nat) (d : A.D) : Prop := isPd d = true ∧ (pd d).canLay0 = true ∧ (pd d).depth ≤ k
theorem Dt.dat {d : A.D} (h : Dt 62 d) : dat d = true := by
  simp only [A.dat, h.1, SeqAt.shaped, h.2.1, Bool.true_and, decide_eq_true_eq]
  have := h.2.2
  omega
theorem dts {k : Nat} : ∀ {xs : List A.D}, (∀ x ∈ xs, Dt k x) → isPds xs = true ∧ PyData.canLayAll0 (pds xs) = true ∧ PyData.depthAll (pds xs) ≤ k
  | [], _ => ⟨rfl, rfl, Nat.zero_le _⟩
  | x :: r, h => by
    obtain ⟨h1, h2, h3⟩ := h x (by simp)
    obtain ⟨i1, i2, i3⟩ := dts (xs := r) fun y hy => h y (by simp [hy])
    refine ⟨by simp [isPds, h1, i1], by simp [pds, PyData.canLayAll0, h2, i2], ?_⟩
    simp only [pds, PyData.depthAll]
    omega
theorem Dt.tup {k : Nat} {xs : List A.D} (h : ∀ x ∈ xs, Dt k x) : Dt (k + 1) (.tup xs) := by
  obtain ⟨h1, h2, h3⟩ := dts h
  exact ⟨by simpa [isPd] using h1, by simpa [pd, PyData.canLay0] using h2, by simp only [pd, PyData.depth]; omega⟩
theorem Dt.lst {k : Nat} {xs : List A.D} (h : ∀ x ∈ xs, Dt k x) : Dt (k + 1) (.lst xs) := by
  obtain ⟨h1, h2, h3⟩ := dts h
  exact ⟨by simpa [isPd] using h1, by simpa [pd, PyData.canLay0] using h2, by simp only [pd, PyData.depth]; omega⟩
theorem Dt.up {k m : Nat} {d : A.D} (h : Dt k d) (hk : k ≤ m) : Dt m d := ⟨h.1, h.2.1, Nat.le_trans h.2.2 hk⟩
theorem Dt.int {k : Nat} {i : Int} : Dt k (.int i) := ⟨rfl, rfl, Nat.zero_le _⟩
theorem Dt.non {k : Nat} : Dt k .non := ⟨rfl, rfl, Nat.zero_le _⟩
theorem Dt.str {k : Nat} {s : Str} (h : PyData.strOk s = true) : Dt k (.str s) := ⟨rfl, h, Nat.zero_le _⟩
def flL (f : Nat → Bool) (n : Nat) : List A.D := (List.range n).map fun i => A.D.bl (f i)
def intD (l : List Int) : List A.D := l.map A.D.int
theorem flL_len {f : Nat → Bool} {n : Nat} : (flL f n).length = n := by simp [flL]
theorem flL_at {f : Nat → Bool} {n i : Nat} (h : i < n) : atI (flL f n) (i : Int) = some (.bl (f i)) := atD (by simp [flL, h])
theorem flL_set {f : Nat → Bool} {n i : Nat} (b : Bool) : (flL f n).set i (.bl b) = flL (fun j => if j = i then b else f j) n := by
  refine List.ext_getElem? fun j => ?_
  rw [List.getElem?_set]
  by_cases hj : j < n
  · by_cases e : i = j
    · subst e
      simp [flL, hj]
    · rw [if_neg e]
      simp [flL, hj, show ¬ j = i from fun z => e z.symm]
  · by_cases e : i = j
    · subst e
      simp [flL, hj]
    · rw [if_neg e]
      simp [flL, hj]
theorem flL_ext {f g : Nat → Bool} {n : Nat} (h : ∀ i, i < n → f i = g i) : flL f n = flL g n := List.map_congr_left fun i hi => by rw [h i (List.mem_range.mp hi)]
theorem spotI {first size r : Nat} (h : 0 < size) : (spot first size r : Int) = (first : Int) + ((r : Int) - (first : Int)) % (size : Int) := by
  unfold spot
  have a : 0 ≤ ((r : Int) - (first : Int)) % (size : Int) := Int.emod_nonneg _ (by omega)
  omega
theorem rngN_nat {a b c : Nat} : rngN (a : Int) (b : Int) (c : Int) = if a < b then (b - a - 1) / c + 1 else 0 := by
  unfold rngN
  by_cases h : a < b
  · rw [if_pos h, if_pos (by omega)]
    have e : ((b : Int) - (a : Int) - 1) = ((b - a - 1 : Nat) : Int) := by omega
    have e2 : (((b - a - 1) / c : Nat) : Int) + 1 = (((b - a - 1) / c + 1 : Nat) : Int) := by simp
    rw [e, ← Int.natCast_ediv, e2, Int.toNat_natCast]
  · rw [if_neg h, if_neg (by omega)]
/-- the places that a rest's turns reach -/
def runL (start period size n : Nat) : List Nat := (List.range (if spot start period n < size then (size - spot start period n - 1) / period + 1 else 0)).map fun k => spot start period n + k * period
theorem runL_eq {start period size n : Nat} (p0 : 0 < period) : rngC ((start : Int) + ((n : Int) - (start : Int)) % (period : Int)) (period : Int) (rngN ((start : Int) + ((n : Int) - (start : Int)) % (period : Int)) (size : Int) (period : Int)) = (runL start period size n).map fun (k : Nat) => A.D.int (k : Int) := by
  rw [← spotI p0, rngN_nat]
  unfold rngC runL
  rw [List.map_map]
  refine List.map_congr_left fun k _ => ?_
  simp
theorem runL_lt {start period size n : Nat} : ∀ k ∈ runL start period size n, k < size := fun k hk => by
  obtain ⟨m, hm, rfl⟩ := List.mem_map.mp hk
  have hm := List.mem_range.mp hm
  split at hm
  · rcases Nat.eq_zero_or_pos period with z | z
    · subst z
      omega
    · have := (Nat.le_div_iff_mul_le z).mp (Nat.le_of_lt_succ hm)
      omega
  · omega
theorem runL_mem {start period size n i : Nat} (p0 : 0 < period) (hn : n < period) (hi : i < size) : i ∈ runL start period size n ↔ start ≤ i ∧ i % period = n := by
  rw [← spot_run p0 hn hi]
  unfold runL
  rw [List.mem_map]
  exact ⟨fun ⟨k, h, e⟩ => ⟨k, List.mem_range.mp h, e⟩, fun ⟨k, h, e⟩ => ⟨k, List.mem_range.mpr h, e⟩⟩
theorem cls_flL {N : Nat} {f : Nat → Bool} {n : Nat} : cls N (flL f n) = true := by
  have key : ∀ {l : List Nat}, cls N (l.map fun i => A.D.bl (f i)) = true := by
    intro l
    induction l with
    | nil => rfl
    | cons a l ih => simp [cls, cl, ih]
  exact key
def spFlags : ASp := fun ds S Q _ => opt (five5 ds) fun q => ∃ (de dr : A.D) (es rs : List Int) (start period size : Nat), q = (de, .int start, .int period, dr, .int size) ∧ fv de = some (intD es) ∧ fv dr = some (intD rs) ∧
  start ≤ 20000 ∧ 0 < period ∧ period ≤ 20000 ∧ size ≤ 20000 ∧ (∀ e ∈ es, 0 ≤ e ∧ e < start) ∧ (∀ r ∈ rs, 0 ≤ r ∧ r < period) ∧ Q (.lst (flL (hasN es rs start period) size)) S
section
variable {P : Program} {w : World} {K : PySem.W.Frag} {cA : Str → Addr} {mg : Str → Option Value} {base : Heap} {f : Addr} {fd : FuncData}
theorem d_flags0 (D : Dfn K mg "flags_of" s_flags ["early", "start", "period", "rests", "size"] f fd) (T : Bn mg) : Fnc P w K mg base 1 "flags_of" (upSp ⟨K, cA⟩ spFlags) := by
  refine (D.fnc (sp := upSp ⟨K, cA⟩ fun ds S Q E => spFlags ds S (fun d S' => ∃ l, d = .lst l ∧ Q (.ref S.length) (S ++ [.lst l])) E) (def_ok (k := 0) D.F sc_flags (fun cdv A outer s H E hr => (js_cons (js_setLcM (i := 5) (own := [("number", 6)]) (tt := aYes) (by rfl) sc_flags.nd rfl rfl (sw_true rfl rfl rfl (by decide +kernel)) (gl_name (i := 6) (by decide)) (ji_range1 rfl T.range (ja_cons (jv 4) ja_nil)) (blkOk_by (own := [("number", 6)]) (N := ["early", "start", "period", "rests", "size", "flags", "number", "rest"]) (sc := defScope s_flags) (by decide +kernel)) (fun _ _ _ _ _ => (pg_name (i := 6) sc_flags.nd rfl (Or.inl rfl))) (fun _ _ _ _ _ => jts_nil) (fun _ _ _ _ _ => j_bl))
    (js_cons (js_for (vs := [0, 1, 2, 3, 4, 5, 6, 7]) (gl_name (i := 6) (by decide)) (passes_of rfl) rfl (ji_seq (jv 0)) (pg_name (i := 6) sc_flags.nd rfl (Or.inl rfl))
      (js_one (js_if (jt_cmp op_lt os_lt (jv 6) (jv 4) (nomark _))
        (js_one (js_putL (jv 5) (jv 6) j_bl))
        js_nil)))
    (js_cons (js_for (vs := [0, 1, 2, 3, 4, 5, 6, 7]) (gl_name (i := 7) (by decide)) (passes_of rfl) rfl (ji_seq (jv 3)) (pg_name (i := 7) sc_flags.nd rfl (Or.inl rfl))
      (js_one (js_for (vs := [0, 1, 2, 3, 4, 5, 6, 7]) (gl_name (i := 6) (by decide)) (passes_of rfl) rfl (ji_range3 rfl T.range (ja_cons (j_op (op_addA K) os_add (jv 1) (j_op op_mod os_mod (j_op op_sub os_sub (jv 7) (jv 1)) (jv 2))) (ja_cons (jv 4) (ja_cons (jv 2) ja_nil)))) (pg_name (i := 6) sc_flags.nd rfl (Or.inl rfl))
        (js_one (js_putL (jv 5) (jv 6) j_bl)))))
    (js_one (js_ret (jv 5))))))) ?_ ?_)).cut2 ?_
  · intro ds S Q E h
    obtain ⟨a, b, c, d, e, rfl, _⟩ := opt_five h
    rfl
  · intro ds S Q E h
    obtain ⟨x1, x2, x3, x4, x5, rfl, de, dr, es, rs, start, period, size, eq, he, hr', l1, l2, l3, l4, be, br, l, el, q⟩ := opt_five h
    clear h
    cases eq
    cases el
    have stA : ∀ g, lstAt (S ++ [O.lst (flL g size)]) S.length = some (flL g size) := fun g => lstAt_of (by simp)
    have stS : ∀ g h, (S ++ [O.lst (flL g size)]).set S.length (O.lst h) = S ++ [O.lst h] := fun g h => by simp
    have put : ∀ (g : Nat → Bool) (i : Nat), i < size → ixN (flL g size).length (i : Int) = some i := fun g i hi => by rw [flL_len]; unfold ixN; rw [if_pos (by omega), if_pos (by omega)]; simp
    simp_arith
    refine ⟨⟨by omega, by omega⟩, ?_⟩
    refine lcX_map (fun _ => true) (fun _ => .bl false) (by simp [rng]; omega) (fun x hx Y F hY _ => ?_) ?_
    · obtain ⟨i, _, rfl⟩ := List.mem_map.mp hx
      simp_arith
      exact hY rfl
    rw [filter_all]
    have e0 : (rng 0 (size : Int).toNat).map (fun _ => A.D.bl false) = flL (fun _ => false) size := by simp [rng, flL]
    rw [e0]
    simp_arith [he]
    refine forX_by (fun r ρ S' => ∃ (t : List Int) (g : Nat → Bool) (o : Option A.D), r = intD t ∧ (∀ e ∈ t, 0 ≤ e ∧ e < start) ∧ ρ = [some x1, some (.int start), some (.int period), some x4, some (.int size), some (.ref S.length), o, none] ∧ S' = S ++ [.lst (flL g size)] ∧
      ∀ i, i < size → (g i || decide ((i : Int) ∈ t)) = decide ((i : Int) ∈ es)) ?_ ?_ ⟨es, _, _, rfl, be, rfl, rfl, fun i _ => by simp⟩
    · rintro ρ S' ⟨t, g, o, e, _, rfl, rfl, hg⟩
      have : t = [] := by simpa [intD] using e.symm
      subst this
      simp_arith [hr']
      refine forX_by (fun r ρ S' => ∃ (t : List Int) (g : Nat → Bool) (o o2 : Option A.D), r = intD t ∧ (∀ e ∈ t, 0 ≤ e ∧ e < period) ∧ ρ = [some x1, some (.int start), some (.int period), some x4, some (.int size), some (.ref S.length), o, o2] ∧ S' = S ++ [.lst (flL g size)] ∧
        ∀ i, i < size → (g i || (decide (start ≤ i) && decide (((i % period : Nat) : Int) ∈ t))) = hasN es rs start period i) ?_ ?_ ⟨rs, g, _, _, rfl, br, rfl, rfl, ?_⟩
      · rintro ρ S' ⟨t, g, o, o2, e, _, rfl, rfl, hg⟩
        have : t = [] := by simpa [intD] using e.symm
        subst this
        simp_arith
        rw [flL_ext (g := hasN es rs start period) fun i hi => by simpa using hg i hi]
        exact q
      · rintro x r ρ S' ⟨t, g, o, o2, e, hb, rfl, rfl, hg⟩ F hF
        cases t with
        | nil => cases e
        | cons a t =>
          obtain ⟨rfl, rfl⟩ : x = .int a ∧ r = intD t := by simpa [intD] using e
          obtain ⟨ha, hb'⟩ := List.forall_mem_cons.mp hb
          obtain ⟨n, rfl⟩ := Int.eq_ofNat_of_zero_le ha.1
          simp_arith
          have hn : n < period := by omega
          have m0 : 0 ≤ ((n : Int) - (start : Int)) % (period : Int) := Int.emod_nonneg _ (by omega)
          have m1 : ((n : Int) - (start : Int)) % (period : Int) < (period : Int) := Int.emod_lt_of_pos _ (by omega)
          refine ⟨by omega, ⟨by omega, by omega, by omega, by omega, by omega, by omega⟩, ?_⟩
          rw [runL_eq l2]
          refine forX_by (fun r ρ S' => ∃ (ks : List Nat) (g' : Nat → Bool) (o' : Option A.D), r = ks.map (fun (k : Nat) => A.D.int (k : Int)) ∧ (∀ k ∈ ks, k < size) ∧ ρ = [some x1, some (.int start), some (.int period), some x4, some (.int size), some (.ref S.length), o', some (.int n)] ∧ S' = S ++ [.lst (flL g' size)] ∧
            ∀ i, i < size → (g' i || decide (i ∈ ks)) = (g i || (decide (start ≤ i) && decide (i % period = n)))) ?_ ?_ ⟨_, g, _, rfl, runL_lt, rfl, rfl, fun i hi => ?_⟩
          · rintro ρ S' ⟨ks, g', o', e', _, rfl, rfl, hg'⟩
            have : ks = [] := by simpa using e'.symm
            subst this
            refine hF _ _ ⟨t, g', _, _, rfl, hb', rfl, rfl, fun i hi => ?_⟩
            have h1 := hg i hi
            have h2 := hg' i hi
            simp only [List.not_mem_nil, decide_false, Bool.or_false] at h2
            rw [h2, ← h1]
            have e3 : decide (((i % period : Nat) : Int) ∈ (n : Int) :: t) = (decide (i % period = n) || decide (((i % period : Nat) : Int) ∈ t)) := by
              rw [Bool.eq_iff_iff]
              simp only [List.mem_cons, decide_eq_true_eq, Bool.or_eq_true]
              exact or_congr ⟨fun h => Int.ofNat.inj h, fun h => by rw [h]⟩ Iff.rfl
            rw [e3, Bool.and_or_distrib_left, Bool.or_assoc]
          · rintro x r ρ S' ⟨ks, g', o', e', hk, rfl, rfl, hg'⟩ F' hF'
            cases ks with
            | nil => cases e'
            | cons a ks =>
              obtain ⟨rfl, rfl⟩ : x = .int (a : Int) ∧ r = ks.map (fun (k : Nat) => A.D.int (k : Int)) := by simpa using e'
              obtain ⟨ha', hk'⟩ := List.forall_mem_cons.mp hk
              simp_arith [put, ha']
              refine hF' _ _ ⟨ks, fun j => if j = a then true else g' j, _, rfl, hk', rfl, by rw [flL_set], fun i hi => ?_⟩
              rw [← hg' i hi]
              by_cases z : i = a
              · simp [z]
              · simp [z]
          · congr 1
            rw [Bool.eq_iff_iff]
            simp only [decide_eq_true_eq, Bool.and_eq_true]
            exact runL_mem l2 hn hi
      · intro i hi
        have := hg i hi
        simp only [List.not_mem_nil, decide_false, Bool.or_false] at this
        rw [this]
        unfold hasN
        by_cases c : i < start
        · rw [if_pos c, decide_eq_false (show ¬ start ≤ i by omega)]
          simp
        · rw [if_neg c, decide_eq_true (show start ≤ i by omega), decide_eq_false (show ¬ (i : Int) ∈ es from fun z => by have := (be _ z).2; omega)]
          simp
    · rintro x r ρ S' ⟨t, g, o, e, hb, rfl, rfl, hg⟩ F hF
      cases t with
      | nil => cases e
      | cons a t =>
        obtain ⟨rfl, rfl⟩ : x = .int a ∧ r = intD t := by simpa [intD] using e
        obtain ⟨ha, hb'⟩ := List.forall_mem_cons.mp hb
        obtain ⟨n, rfl⟩ := Int.eq_ofNat_of_zero_le ha.1
        simp_arith
        by_cases c : n < size
        · rw [if_pos (show (n : Int) < (size : Int) by omega)]
          simp_arith [put, c]
          refine hF _ _ ⟨t, fun j => if j = n then true else g j, _, rfl, hb', rfl, by rw [flL_set], fun i hi => ?_⟩
          rw [← hg i hi]
          by_cases z : i = n
          · simp [z]
          · simp [z, show ¬ (i : Int) = (n : Int) by omega]
        · rw [if_neg (show ¬ (n : Int) < (size : Int) by omega)]
          refine hF _ _ ⟨t, g, _, rfl, hb', rfl, rfl, fun i hi => ?_⟩
          rw [← hg i hi]
          simp [show ¬ (i : Int) = (n : Int) by omega]
  · intro ds S Q E h
    obtain ⟨x1, x2, x3, x4, x5, rfl, de, dr, es, rs, start, period, size, eq, he, hr', l1, l2, l3, l4, be, br, q⟩ := opt_five h
    refine ⟨de, dr, es, rs, start, period, size, eq, he, hr', l1, l2, l3, l4, be, br, _, rfl, S, [_], .lst (flL (hasN es rs start period) size), rfl, rfl, fun i o e => .inl e, ?_, q⟩
    simp [frz, cls_flL]
theorem eqv_bls : ∀ {a b : List Bool}, PyData.eqvAll (pds (a.map A.D.bl)) (pds (b.map A.D.bl)) = decide (a = b)
  | [], [] => rfl
  | [], _ :: _ => rfl
  | _ :: _, [] => rfl
  | x :: a, y :: b => by
    simp only [List.map_cons, pds, PyData.eqvAll, eqv_bls (a := a) (b := b), pd, PyData.eqv, List.cons.injEq]
    rw [Bool.eq_iff_iff]
    simp
theorem eqD_bls {a b : List Bool} : eqD (.lst (a.map A.D.bl)) (.lst (b.map A.D.bl)) = decide (a = b) := eqv_bls
theorem dat_bls {a : List Bool} : dat (.lst (a.map A.D.bl)) = true := (Dt.lst (k := 0) fun x hx => by obtain ⟨b, _, rfl⟩ := List.mem_map.mp hx; exact ⟨rfl, rfl, Nat.le_refl _⟩).up (by decide) |>.dat
theorem cut_take {xs : List A.D} {k : Nat} (h : k ≤ xs.length) : cutD xs none (some (k : Int)) = xs.take k := by
  unfold cutD
  rw [HT.sIx_none, HT.sIx_nat, Nat.min_eq_left h]
  simp
theorem cut_drop {xs : List A.D} {k : Nat} (h : k ≤ xs.length) : cutD xs (some (k : Int)) none = xs.drop k := by
  unfold cutD
  rw [HT.sIx_none, HT.sIx_nat, Nat.min_eq_left h, List.take_of_length_le (by simp)]
theorem rng_eq {a n : Nat} : rng (a : Int) n = (List.range' a n).map fun (j : Nat) => A.D.int (j : Int) := by
  unfold rng
  rw [List.range'_eq_map_range, List.map_map]
  refine List.map_congr_left fun k _ => ?_
  simp
theorem repD_bls {l : List Bool} {k : Nat} : repD (l.map A.D.bl) (k : Int) = ((List.replicate k l).flatten).map A.D.bl := by
  unfold repD
  rw [Int.toNat_natCast, List.map_flatten, List.map_replicate]
def spSper : ASp := fun ds S Q _ => opt (one1 ds) fun d => ∃ (g : Nat → Bool) (a p : Nat), d = .lst ((cyc g a p).map A.D.bl) ∧ 0 < p ∧ p ≤ 20000 ∧ Per g a p ∧ ∀ s : Nat, Least g s → Per g a s → p % s = 0 → Q (.int s) S
theorem d_sper (D : Dfn K mg "shortest_period" s_sper ["cycle"] f fd) (T : Bn mg) : Fnc P w K mg base 1 "shortest_period" (upSp ⟨K, cA⟩ spSper) := by
  refine D.fnc (def_ok (k := 0) D.F sc_sper (fun cdv A outer s H E hr => (js_cons (js_set (i := 1) sc_sper.nd rfl (Or.inl rfl) (j_callB (kcall_len_seq K) cs_len (by rfl) T.len (by decide +kernel) (ja_cons (jv 0) ja_nil)))
    (js_cons (js_for (vs := [0, 1, 2]) (gl_name (i := 2) (by decide)) (passes_of rfl) rfl (ji_range2 rfl T.range (ja_cons j_int (ja_cons (jv 1) ja_nil))) (pg_name (i := 2) sc_sper.nd rfl (Or.inl rfl))
      (js_one (js_if (JW.jt (jw_and (jt_cmp (op_eqA K hr.units) os_eq (j_op op_mod os_mod (jv 1) (jv 2)) j_int (nomark _)) (jw_and1 (jt_cmp (op_eqA K hr.units) os_eq (jv 0) (j_op (op_mulB K) os_mul (j_sl (jv 0) jo_none (jo_some (jv 2))) (j_op op_fdiv os_fdiv (jv 1) (jv 2))) (nomark _)))))
        (js_one (js_ret (jv 2)))
        js_nil)))
    (js_one (js_ret (jv 1)))))) ?_ ?_)
  · intro ds S Q E h
    obtain ⟨a, rfl, _⟩ := opt_one h
    rfl
  · intro ds S Q E h
    obtain ⟨d, rfl, g, a, p, rfl, p0, p1, hper, q⟩ := opt_one h
    clear h
    have len : ((cyc g a p).map A.D.bl).length = p := by rw [List.length_map, cyc_len]
    simp_arith [len]
    refine ⟨⟨by omega, by omega, by omega, by omega⟩, ?_⟩
    have e1 : ((p : Int) - 1).toNat = p - 1 := by omega
    rw [e1, show (1 : Int) = ((1 : Nat) : Int) from rfl, rng_eq]
    refine forX_by (fun r ρ S' => ∃ (k m : Nat) (o : Option A.D), r = (List.range' k m).map (fun (j : Nat) => A.D.int (j : Int)) ∧ 1 ≤ k ∧ k + m = p ∧ ρ = [some (.lst ((cyc g a p).map A.D.bl)), some (.int p), o] ∧ S' = S ∧ ∀ j, 0 < j → j < k → ¬ (p % j = 0 ∧ Per g a j)) ?_ ?_
      ⟨1, p - 1, _, rfl, Nat.le_refl _, by omega, rfl, rfl, fun j h1 h2 => by omega⟩
    · rintro ρ S' ⟨k, m, o, e, hk, hm, rfl, rfl, no⟩
      have m0 : m = 0 := by
        cases m with
        | zero => rfl
        | succ m => simp [List.range'] at e
      subst m0
      have kp : k = p := by omega
      subst kp
      simp_arith
      exact q _ (least_of hper p0 p0 hper (Nat.mod_self _) no) hper (Nat.mod_self _)
    · rintro x r ρ S' ⟨k, m, o, e, hk, hm, rfl, rfl, no⟩ F hF
      cases m with
      | zero => simp at e
      | succ m =>
        obtain ⟨rfl, rfl⟩ : x = .int (k : Int) ∧ r = (List.range' (k + 1) m).map (fun (j : Nat) => A.D.int (j : Int)) := by simpa [List.range'] using e
        have kl : k ≤ ((cyc g a p).map A.D.bl).length := by rw [len]; omega
        have e2 : ((p : Int) / (k : Int)) = ((p / k : Nat) : Int) := by simp
        have tk : ((cyc g a p).map A.D.bl).take k = ((cyc g a p).take k).map A.D.bl := by rw [List.map_take]
        have next : ¬ (p % k = 0 ∧ Per g a k) → F [some (.lst ((cyc g a p).map A.D.bl)), some (.int p), some (.int (k : Int))] S' := fun z => by
          refine hF _ _ ⟨k + 1, m, _, rfl, by omega, by omega, rfl, rfl, fun j h1 h2 => ?_⟩
          rcases Nat.lt_or_ge j k with l | l
          · exact no j h1 l
          · have : j = k := by omega
            subst this
            exact z
        simp_arith [cut_take kl, tk, e2, repD_bls]
        refine ⟨by omega, ?_⟩
        by_cases c : (p : Int) % (k : Int) = 0
        · rw [if_pos c]
          have c' : p % k = 0 := by
            have : ((p % k : Nat) : Int) = 0 := by rw [Int.natCast_emod]; exact c
            exact Int.ofNat.inj this
          have hq : (p / k) * k = p := Nat.div_mul_cancel (Nat.dvd_of_mod_eq_zero c')
          have zp : p / k ≤ p := Nat.div_le_self _ _
          have cp := cyc_per hper (show 0 < k by omega) c' p0
          obtain ⟨z, hz⟩ : ∃ z, z = p / k := ⟨_, rfl⟩
          rw [← hz] at hq zp cp ⊢
          refine ⟨⟨by omega, by omega⟩, ⟨by omega, by omega, ?_⟩, ⟨dat_bls, dat_bls⟩, ?_⟩
          · rw [List.length_map, List.length_take, cyc_len, Nat.min_eq_left (by omega), Int.toNat_natCast, Nat.mul_comm, hq]
            exact big2 (by omega)
          · rw [eqD_bls]
            by_cases c2 : Per g a k
            · rw [if_pos (decide_eq_true (cp.mpr c2))]
              exact q _ (least_of hper p0 (by omega) c2 c' no) c2 c'
            · rw [if_neg (by rw [decide_eq_true_eq]; exact fun z => c2 (cp.mp z))]
              exact next fun z => c2 z.2
        · rw [if_neg c]
          exact next fun z => c (by rw [← Int.natCast_emod, z.1]; rfl)
def spShort : ASp := fun ds S Q _ => opt (two2 ds) fun q => ∃ (g : Nat → Bool) (a p : Nat), q = (.lst (flL g (a + p)), .int a) ∧ 0 < p ∧ p ≤ 10000 ∧ a ≤ 10000 ∧ Per g a p ∧ ∀ b s : Nat, Canon g b s → b ≤ a → p % s = 0 → Q (.tup [.int b, .int s]) S
theorem flL_drop {g : Nat → Bool} {a p : Nat} : (flL g (a + p)).drop a = (cyc g a p).map A.D.bl := by
  unfold flL cyc
  rw [List.range_add, List.map_append, List.drop_append_of_le_length (by simp), List.drop_of_length_le (by simp), List.map_map, List.map_map, List.nil_append]
  rfl
theorem d_short (D : Dfn K mg "shortest" s_short ["flags", "start"] f fd) (T : Bn mg) (cP : Fnc P w K mg base 1 "shortest_period" (upSp ⟨K, cA⟩ spSper)) : Fnc P w K mg base 2 "shortest" (upSp ⟨K, cA⟩ spShort) := by
  refine D.fnc (def_ok (k := 1) D.F sc_short (fun cdv A outer s H E hr => (js_cons (js_set (i := 2) sc_short.nd rfl (Or.inl rfl) (j_fc cP hr (by omega) rfl (L2N.passAt (L2N.takes_of rfl rfl rfl rfl)) (ja_cons (j_sl (jv 0) (jo_some (jv 1)) jo_none) ja_nil)))
    (js_cons (js_while (passes_of rfl) (JW.jt (jw_and (jt_cmp op_gt os_gt (jv 1) j_int (nomark _)) (jw_and1 (jt_cmp (op_eqA K hr.units) os_eq (j_ix (kix_lt K) os_ix (jv 0) (j_op op_sub os_sub (jv 1) j_int) (fun _ _ => rfl)) (j_ix (kix_lt K) os_ix (jv 0) (j_op (op_addA K) os_add (j_op op_sub os_sub (jv 1) j_int) (jv 2)) (fun _ _ => rfl)) (nomark _)))))
      (js_one (js_set (i := 1) sc_short.nd rfl (Or.inl rfl) (j_op op_sub os_sub (jv 1) j_int))))
    (js_one (js_ret (j_tup (ja_cons (jv 1) (ja_cons (jv 2) ja_nil)))))))) ?_ ?_)
  · intro ds S Q E h
    obtain ⟨a, b, rfl, _⟩ := opt_two h
    rfl
  · intro ds S Q E h
    obtain ⟨x1, x2, rfl, g, a, p, eq, p0, p1, a1, hper, q⟩ := opt_two h
    clear h
    cases eq
    simp_arith [cut_drop (show a ≤ (flL g (a + p)).length by rw [flL_len]; omega), flL_drop, spSper]
    refine ⟨g, a, p, rfl, p0, by omega, hper, fun s hl hs hd => ?_⟩
    have s0 := hl.1
    have sp : s ≤ p := Nat.le_of_dvd p0 (Nat.dvd_of_mod_eq_zero hd)
    refine ⟨fun m ρ S' => ∃ b : Nat, m = b ∧ ρ = [some (.lst (flL g (a + p))), some (.int (b : Int)), some (.int (s : Int))] ∧ S' = S ∧ b ≤ a ∧ Per g b s, ⟨a, a, rfl, rfl, rfl, Nat.le_refl _, hs⟩, ?_⟩
    rintro b ρ S' ⟨_, rfl, rfl, rfl, hb, hp⟩
    cases b with
    | zero =>
      simp_arith
      exact q 0 s ⟨hp, hl, .inl rfl⟩ (Nat.zero_le _) hd
    | succ b =>
      have e1 : ((b + 1 : Nat) : Int) - 1 = (b : Int) := by omega
      have e2 : (b : Int) + (s : Int) = ((b + s : Nat) : Int) := by omega
      have e3 : (0 : Int) < ((b + 1 : Nat) : Int) := by omega
      simp_arith [e1, e2, e3, flL_at (f := g) (show b < a + p by omega), flL_at (f := g) (show b + s < a + p by omega)]
      by_cases c : g b = g (b + s)
      · rw [if_pos c]
        refine ⟨b, Nat.lt_succ_self _, b, rfl, rfl, by omega, fun n hn => ?_⟩
        rcases Nat.eq_or_lt_of_le hn with rfl | l
        · exact c.symm
        · exact hp n l
      · rw [if_neg c]
        exact q _ _ ⟨hp, hl, .inr c⟩ hb hd
end


open Sm
/-! ### a set is made -/
abbrev s_sinit : Stmt := (inClass (topS 19) 0)
theorem sc_sinit : FnScope ["self", "early", "start", "period", "rests", "flags", "first", "size", "number", "rest"] ["self", "early", "start", "period", "rests"] (defScope s_sinit) := ⟨rfl, rfl, rfl, by decide +kernel, rfl, by decide +kernel, by decide +kernel⟩
def lsD (o : LS) : A.D := .obj "LengthSet" ["first", "size", "members", "tail"] [.int o.first, .int o.size, .tup (intD (intsN (memL o.f o.first))), .tup (intD (intsN (tailL o.f o.first o.size)))]
def lsO (o : LS) : O := .ins "LengthSet" [("first", .int o.first), ("size", .int o.size), ("members", .tup (intD (intsN (memL o.f o.first)))), ("tail", .tup (intD (intsN (tailL o.f o.first o.size))))]
/-- the class as it stands -/
structure LSc (K : PySem.W.Frag) (cA : Str → Addr) (mg : Str → Option Value) : Prop where
  first : FldOk ⟨K, cA⟩ "LengthSet" "first"
  size : FldOk ⟨K, cA⟩ "LengthSet" "size"
  members : FldOk ⟨K, cA⟩ "LengthSet" "members"
  tail : FldOk ⟨K, cA⟩ "LengthSet" "tail"
  gl : mg "LengthSet" = some (.ref (cA "LengthSet"))
structure MDf (K : PySem.W.Frag) (x qual : Str) (st : Stmt) (ps : List Str) (f : Addr) (fd : FuncData) : Prop where
  F : FunG K x qual st f fd
  b : Binds K fd ps []
structure MDg (K : PySem.W.Frag) (x qual : Str) (st : Stmt) (f : Addr) (fd : FuncData) : Prop where
  F : FunG K x qual st f fd
def numsD (d : A.D) : List Int := match sqOf d with
  | some xs => xs.map numI
  | none => []
def setF (e s p r : A.D) : Nat → Bool := hasN (numsD e) (numsD r) (numI s).toNat (numI p).toNat
theorem asc_ints {b : Int} : ∀ {xs : List A.D} {bef : Int}, ascL b xs bef = true → xs = intD (xs.map numI) ∧ ∀ x ∈ xs.map numI, 0 ≤ x ∧ x < b
  | [], _, _ => ⟨rfl, by simp⟩
  | d :: xs, bef, h => by
    simp only [ascL, Bool.and_eq_true, decide_eq_true_eq] at h
    obtain ⟨h1, h2, h3, h4⟩ := h
    obtain ⟨i1, i2⟩ := asc_ints h4
    obtain ⟨j, rfl, hj⟩ := cnt_int (d := d) (by rw [h1]; decide)
    refine ⟨?_, ?_⟩
    · show A.D.int j :: xs = A.D.int j :: intD (xs.map numI)
      rw [← i1]
    · intro x hx
      rcases List.mem_cons.mp hx with rfl | hx
      · exact ⟨hj, h3⟩
      · exact i2 x hx
theorem asc_fv {b : Int} {d : A.D} (h : ¬ isAsc b d = false) : fv d = some (intD (numsD d)) ∧ ∀ x ∈ numsD d, 0 ≤ x ∧ x < b := by
  unfold isAsc at h
  unfold numsD
  cases d <;> simp only [sqOf] at h ⊢ <;> first
    | exact absurd trivial h
    | (obtain ⟨h1, h2⟩ := asc_ints (by simpa using h)
       exact ⟨congrArg some h1, h2⟩)
/-- what right arguments are -/
theorem right_of {e s p r : A.D} (h : wrongSet e s p r = none) : ∃ (a q : Nat), s = .int a ∧ p = .int q ∧ a ≤ 5000 ∧ 0 < q ∧ q ≤ 5000 ∧ (fv e = some (intD (numsD e)) ∧ ∀ x ∈ numsD e, 0 ≤ x ∧ x < (a : Int)) ∧ (fv r = some (intD (numsD r)) ∧ ∀ x ∈ numsD r, 0 ≤ x ∧ x < (q : Int)) := by
  unfold wrongSet at h
  split at h; · cases h
  rename_i c1
  split at h; · cases h
  rename_i c2
  split at h; · cases h
  rename_i c3
  split at h; · cases h
  rename_i c4
  split at h; · cases h
  rename_i c5
  split at h; · cases h
  rename_i c6
  obtain ⟨a, rfl, ha⟩ := cnt_int c1
  obtain ⟨q, rfl, hq⟩ := cnt_int (fun z => c3 (.inl z))
  have q0 : q ≠ 0 := fun z => c3 (.inr z)
  obtain ⟨a, rfl⟩ := Int.eq_ofNat_of_zero_le ha
  obtain ⟨q, rfl⟩ := Int.eq_ofNat_of_zero_le hq
  have c2 : ¬ 5000 < (a : Int) := c2
  have c4 : ¬ 5000 < (q : Int) := c4
  exact ⟨a, q, rfl, rfl, by omega, by omega, by omega, asc_fv c5, asc_fv c6⟩
/-- [x for x in range(n) if ..] -/
theorem rng0 {n : Nat} : rng 0 n = (List.range n).map fun (i : Nat) => A.D.int (i : Int) := by
  unfold rng
  refine List.map_congr_left fun i _ => ?_
  simp
theorem lc_rng {g : AG} {tt : AM Bool} {te : AM A.D} {ρ : Ev} {Q : List A.D → Sto → Prop} {S : Sto} (p : Nat → Bool) (f : Nat → A.D) {n : Nat} (hn : n ≤ 1000000)
    (h : ∀ i, i < n → ∀ (Y : A.D → Sto → Prop) (F : Sto → Prop), (p i = true → Y (f i) S) → (p i = false → F S) → g (.int (i : Int)) ρ fun ρ2 => tt ρ2 S (fun b S3 => if b = true then te ρ2 S3 Y (fun _ _ => False) else F S3) fun _ _ => False)
    (q : Q (((List.range n).filter p).map f) S) : lcX g tt te ρ Q (rng 0 n) [] S := by
  rw [rng0]
  refine lcX_map (fun d => p (numI d).toNat) (fun d => f (numI d).toNat) (by simpa using hn) (fun x hx Y F hY hF => ?_) ?_
  · obtain ⟨i, hi, rfl⟩ := List.mem_map.mp hx
    exact h i (List.mem_range.mp hi) Y F hY hF
  · rw [List.filter_map, List.map_map]
    exact q
theorem int_nats {l : List Nat} : (l.map fun (i : Nat) => A.D.int (i : Int)) = intD (intsN l) := by
  unfold intD intsN
  rw [List.map_map]
  rfl
theorem cls_ints {N : Nat} {l : List Int} : cls N (intD l) = true := by
  induction l with
  | nil => rfl
  | cons a l ih => simpa [intD, cls, cl] using ih
theorem frz_ls {S : Sto} {o : LS} : frz (S ++ [lsO o]) S.length (.ref S.length) = some (lsD o) := by
  simp [frz, lsO, lsD, cls, cl, cls_ints]
def spSinit : ASp := fun ds S Q E => ∃ S0 e s p r, ds = [.ref S0.length, e, s, p, r] ∧ S = S0 ++ [.ins "LengthSet" []] ∧ isPd e = true ∧ isPd s = true ∧ isPd p = true ∧ isPd r = true ∧ (∀ y, wrongSet e s p r = some y → E (setExc y) S) ∧
  (wrongSet e s p r = none → ∀ o : LS, o.f = setF e s p r → o.first ≤ (numI s).toNat → (numI p).toNat % o.size = 0 → Q .non (S0 ++ [lsO o]))
/-- C(early, start, period, rests) -/
def spMk : ASp := fun ds S Q E => opt (four4 ds) fun q => ∃ e s p r, q = (e, s, p, r) ∧ isPd e = true ∧ isPd s = true ∧ isPd p = true ∧ isPd r = true ∧ (∀ y, wrongSet e s p r = some y → E (setExc y) S) ∧
  (wrongSet e s p r = none → ∀ o : LS, o.f = setF e s p r → o.first ≤ (numI s).toNat → (numI p).toNat % o.size = 0 → Q (lsD o) S)
theorem mk_init (ds : List A.D) (S : Sto) (Q : QD) (E : XQ) (h : spMk ds S Q E) : spSinit (.ref S.length :: ds) (S ++ [.ins "LengthSet" []]) (fun v S' => v = .non ∧ frzQ S Q (.ref S.length) S') (frzE S E) := by
  obtain ⟨e, s, p, r, rfl, e', s', p', r', eq, he, hs, hp, hr, qe, q⟩ := opt_four h
  cases eq
  refine ⟨S, e, s, p, r, rfl, rfl, he, hs, hp, hr, fun y hy => ?_, fun hn o h1 h2 h3 => ?_⟩
  · refine ⟨S, [_], rfl, rfl, fun i o z => .inl z, ?_, qe y hy⟩
    obtain ⟨b, x⟩ := y
    cases b <;> rfl
  · exact ⟨rfl, S, [_], lsD o, rfl, rfl, fun i o z => .inl z, frz_ls, q hn o h1 h2 h3⟩
section
variable {P : Program} {w : World} {K : PySem.W.Frag} {cA : Str → Addr} {mg : Str → Option Value} {base : Heap} {f : Addr} {fd : FuncData}
theorem d_sinit (D : MDg K "__init__" "LengthSet.__init__" s_sinit f fd) (T : Bn mg) (L : LSc K cA mg) (cC : Fnc P w K mg base 3 "check_set" (upSp ⟨K, cA⟩ spCheck)) (cF : Fnc P w K mg base 1 "flags_of" (upSp ⟨K, cA⟩ spFlags)) (cS : Fnc P w K mg base 2 "shortest" (upSp ⟨K, cA⟩ spShort)) :
    FnOk P w K mg base (L2N.CX P w) 4 f fd ["self", "early", "start", "period", "rests"] (upSp ⟨K, cA⟩ spSinit) := by
  refine def_ok (k := 3) D.F sc_sinit (fun cdv A outer s H E hr => (js_cons (js_expr (j_fc cC hr (by omega) rfl (L2N.passAt (L2N.takes_of rfl rfl rfl rfl)) (ja_cons (jv 1) (ja_cons (jv 2) (ja_cons (jv 3) (ja_cons (jv 4) ja_nil))))))
    (js_cons (js_set (i := 5) sc_sinit.nd rfl (Or.inr rfl) (j_fc cF hr (by omega) rfl (L2N.passAt (L2N.takes_of rfl rfl rfl rfl)) (ja_cons (jv 1) (ja_cons (jv 2) (ja_cons (jv 3) (ja_cons (jv 4) (ja_cons (j_op (op_addA K) os_add (jv 2) (jv 3)) ja_nil)))))))
    (js_cons (js_un (vs := [0, 1, 2, 3, 4, 5, 6, 7, 8, 9]) (gl_tup (m := 2) (gls_cons (gl_name (i := 6) (by decide)) (gls_cons (gl_name (i := 7) (by decide)) gls_nil))) (j_fc cS hr (by omega) rfl (L2N.passAt (L2N.takes_of rfl rfl rfl rfl)) (ja_cons (jv 5) (ja_cons (jv 2) ja_nil))) (kpg_tup K (n := 2) rfl (pgs_cons (pg_name (i := 6) sc_sinit.nd rfl (Or.inr rfl)) (pgs_cons (pg_name (i := 7) sc_sinit.nd rfl (Or.inr rfl)) pgs_nil))))
    (js_cons (js_fld (C := "LengthSet") L.first (jv 0) (jv 6) rfl)
    (js_cons (js_fld (C := "LengthSet") L.size (jv 0) (jv 7) rfl)
    (js_cons (js_fld (C := "LengthSet") L.members (jv 0) (j_callTy (kcall_tuple_of K) cs_tuple (by rfl) T.tuple (by decide +kernel) (ja_cons (j_lc (own := [("number", 8)]) (tt := _) (by rfl) sc_sinit.nd (gl_name (i := 8) (by decide)) (ji_range1 rfl T.range (ja_cons (jv 6) ja_nil)) (blkOk_by (own := [("number", 8)]) (N := ["self", "early", "start", "period", "rests", "flags", "first", "size", "number", "rest"]) (sc := defScope s_sinit) (by decide +kernel)) (fun _ _ _ _ _ => (pg_name (i := 8) sc_sinit.nd rfl (Or.inl rfl))) (fun _ _ _ _ _ => (jts_one (jt_val (j_ix (kix_lt K) os_ix (jv 5) (jv 8) (fun _ _ => rfl))))) (fun _ _ _ _ _ => (jv 8))) ja_nil)) rfl)
    (js_one (js_fld (C := "LengthSet") L.tail (jv 0) (j_callTy (kcall_tuple_of K) cs_tuple (by rfl) T.tuple (by decide +kernel) (ja_cons (j_lc (own := [("rest", 9)]) (tt := _) (by rfl) sc_sinit.nd (gl_name (i := 9) (by decide)) (ji_range1 rfl T.range (ja_cons (jv 7) ja_nil)) (blkOk_by (own := [("rest", 9)]) (N := ["self", "early", "start", "period", "rests", "flags", "first", "size", "number", "rest"]) (sc := defScope s_sinit) (by decide +kernel)) (fun _ _ _ _ _ => (pg_name (i := 9) sc_sinit.nd rfl (Or.inl rfl))) (fun _ _ _ _ _ => (jts_one (jt_val (j_ix (kix_lt K) os_ix (jv 5) (j_op (op_addA K) os_add (jv 6) (j_op op_mod os_mod (j_op op_sub os_sub (jv 9) (jv 6)) (jv 7))) (fun _ _ => rfl))))) (fun _ _ _ _ _ => (jv 9))) ja_nil)) rfl))))))))) ?_ ?_
  · intro ds S Q E h
    obtain ⟨S0, e, s, p, r, rfl, _⟩ := h
    rfl
  · intro ds S Q E h
    obtain ⟨S0, e, s, p, r, rfl, rfl, he, hs, hp, hr', qe, q⟩ := h
    refine seq_by fun N1 hN1 => ?_
    simp_arith [spCheck]
    refine ⟨e, s, p, r, rfl, he, hs, hp, hr', fun hn => hN1 _ _ ?_, fun y hy => qe y hy⟩
    obtain ⟨a, b, rfl, rfl, ha, hb, hb', ⟨fe, be⟩, ⟨fr, br⟩⟩ := right_of hn
    clear hN1 qe
    have q := q hn
    refine seq_by fun N1 hN1 => ?_
    simp_arith [spFlags]
    have e1 : (a : Int) + (b : Int) = ((a + b : Nat) : Int) := by omega
    rw [e1]
    refine ⟨e, r, _, _, a, b, a + b, rfl, fe, fr, by omega, hb, by omega, by omega, be, br, hN1 _ _ ?_⟩
    clear hN1
    refine seq_by fun N1 hN1 => ?_
    simp_arith [spShort]
    refine ⟨_, a, b, rfl, hb, by omega, by omega, hasN_per, fun c d hc hca hbd => ?_⟩
    refine hN1 _ _ ?_
    clear hN1
    have d0 := hc.least.1
    have db : d ≤ b := Nat.le_of_dvd hb (Nat.dvd_of_mod_eq_zero hbd)
    obtain ⟨o, ho, o1, o2⟩ := canon_of hb hasN_per ha hb' hc hca
    have q := q o ho (by rw [o1]; exact hca) (by rw [o2]; exact hbd)
    have iA : ∀ fs, insAt (S0 ++ [O.ins "LengthSet" fs]) S0.length "LengthSet" = some fs := fun fs => by simp [insAt]
    have iS : ∀ fs h, (S0 ++ [O.ins "LengthSet" fs]).set S0.length (O.ins "LengthSet" h) = S0 ++ [O.ins "LengthSet" h] := fun fs h => by simp
    refine seq_by fun N1 hN1 => ?_
    simp_arith [iA, iS]
    refine hN1 _ _ ?_
    clear hN1
    refine seq_by fun N1 hN1 => ?_
    simp_arith [iA, iS]
    refine hN1 _ _ ?_
    clear hN1
    refine seq_by fun N1 hN1 => ?_
    simp_arith [iA, iS]
    refine ⟨⟨by omega, by omega⟩, ?_⟩
    rw [Int.toNat_natCast]
    refine lc_rng (hasN (numsD e) (numsD r) a b) (fun i => .int (i : Int)) (by omega) (fun i hi Y F hY hF => ?_) ?_
    · simp_arith [flL_at (f := hasN (numsD e) (numsD r) a b) (show i < a + b by omega)]
      by_cases c1 : hasN (numsD e) (numsD r) a b i = true
      · rw [if_pos c1]
        exact hY c1
      · rw [if_neg c1]
        exact hF (by simpa using c1)
    simp_arith [iA, iS]
    refine hN1 _ _ ?_
    clear hN1
    simp_arith [iA, iS]
    refine ⟨⟨by omega, by omega⟩, ?_⟩
    rw [Int.toNat_natCast]
    refine lc_rng (fun i => hasN (numsD e) (numsD r) a b (spot c d i)) (fun i => .int (i : Int)) (by omega) (fun i hi Y F hY hF => ?_) ?_
    · have sl := spot_lt (first := c) d0 i
      simp_arith [← spotI (first := c) (r := i) d0, flL_at (f := hasN (numsD e) (numsD r) a b) (show spot c d i < a + b by omega)]
      refine ⟨by omega, ?_⟩
      by_cases c1 : hasN (numsD e) (numsD r) a b (spot c d i) = true
      · rw [if_pos c1]
        exact hY c1
      · rw [if_neg c1]
        exact hF (by simpa using c1)
    simp_arith [iA, iS]
    rw [int_nats, int_nats]
    have eo : lsO o = O.ins "LengthSet" [("first", .int c), ("size", .int d), ("members", .tup (intD (intsN ((List.range c).filter (hasN (numsD e) (numsD r) a b))))), ("tail", .tup (intD (intsN ((List.range d).filter fun i => hasN (numsD e) (numsD r) a b (spot c d i)))))] := by
      unfold lsO memL tailL
      rw [ho, o1, o2]
    rw [eo] at q
    exact q
end


open Sm
/-! ### members, equality, properties -/
abbrev s_scont : Stmt := (inClass (topS 19) 11)
theorem sc_scont : FnScope ["self", "thing"] ["self", "thing"] (defScope s_scont) := ⟨rfl, rfl, rfl, by decide +kernel, rfl, by decide +kernel, by decide +kernel⟩
abbrev s_seq : Stmt := (inClass (topS 19) 12)
theorem sc_seq : FnScope ["self", "other"] ["self", "other"] (defScope s_seq) := ⟨rfl, rfl, rfl, by decide +kernel, rfl, by decide +kernel, by decide +kernel⟩
abbrev s_pearly : Stmt := (inClass (topS 19) 1)
theorem sc_pearly : FnScope ["self"] ["self"] (defScope s_pearly) := ⟨rfl, rfl, rfl, by decide +kernel, rfl, by decide +kernel, by decide +kernel⟩
abbrev s_prests : Stmt := (inClass (topS 19) 4)
theorem sc_prests : FnScope ["self"] ["self"] (defScope s_prests) := ⟨rfl, rfl, rfl, by decide +kernel, rfl, by decide +kernel, by decide +kernel⟩
abbrev s_pstart : Stmt := (inClass (topS 19) 2)
theorem sc_pstart : FnScope ["self"] ["self"] (defScope s_pstart) := ⟨rfl, rfl, rfl, by decide +kernel, rfl, by decide +kernel, by decide +kernel⟩
abbrev s_pperiod : Stmt := (inClass (topS 19) 3)
theorem sc_pperiod : FnScope ["self"] ["self"] (defScope s_pperiod) := ⟨rfl, rfl, rfl, by decide +kernel, rfl, by decide +kernel, by decide +kernel⟩
def lsF (o : LS) : List (Str × A.D) := [("first", .int o.first), ("size", .int o.size), ("members", .tup (intD (intsN (memL o.f o.first)))), ("tail", .tup (intD (intsN (tailL o.f o.first o.size))))]
theorem ins_ls {S : Sto} {o : LS} : insOf S (lsD o) "LengthSet" = some (lsF o) := by
  simp [insOf, lsD, lsF]
theorem f_first {o : LS} : (lsF o).lookup ("first" : Str) = some (.int o.first) := by simp [lsF, List.lookup, ofString_beq]
theorem f_size {o : LS} : (lsF o).lookup ("size" : Str) = some (.int o.size) := by simp [lsF, List.lookup, ofString_beq]
theorem f_members {o : LS} : (lsF o).lookup ("members" : Str) = some (.tup (intD (intsN (memL o.f o.first)))) := by simp [lsF, List.lookup, ofString_beq]
theorem f_tail {o : LS} : (lsF o).lookup ("tail" : Str) = some (.tup (intD (intsN (tailL o.f o.first o.size)))) := by simp [lsF, List.lookup, ofString_beq]
def hasD (o : LS) : A.D → Bool
  | .int i => decide (0 ≤ i) && o.f i.toNat
  | _ => false
theorem any_ints {l : List Int} {j : Int} : ((intD l).any fun y => eqv1 y (.int j)) = decide (j ∈ l) := by
  unfold intD
  rw [List.any_map, Bool.eq_iff_iff, List.any_eq_true]
  simp only [Function.comp, A.v_eqv1_int_int, beq_iff_eq, decide_eq_true_eq]
  exact ⟨fun ⟨y, h1, h2⟩ => h2 ▸ h1, fun h => ⟨j, h, rfl⟩⟩
theorem all_flt {l : List Int} : ((intD l).all fun y => flt y) = true := by
  unfold intD
  rw [List.all_map, List.all_eq_true]
  exact fun _ _ => rfl
def spHas : ASp := fun ds S Q _ => opt (two2 ds) fun q => ∃ (o : LS) (d : A.D), q = (lsD o, d) ∧ isPd d = true ∧ Q (.bl (hasD o d)) S
/-- what is no set -/
def notLS (S : Sto) (d : A.D) : Prop := ∃ T, tyN S d = some T ∧ T ∈ ["list", "tuple", "int", "NoneType", "str", "bool"]
def spEqL : ASp := fun ds S Q _ => opt (two2 ds) fun q => ∃ (o : LS) (d : A.D), q = (lsD o, d) ∧ ((∃ o2 : LS, d = lsD o2 ∧ ∀ b : Bool, (b = true ↔ o.f = o2.f) → Q (.bl b) S) ∨ (notLS S d ∧ Q (.bl false) S))
def spFirst : ASp := fun ds S Q _ => opt (one1 ds) fun d => ∃ o : LS, d = lsD o ∧ Q (.int o.first) S
def spSize : ASp := fun ds S Q _ => opt (one1 ds) fun d => ∃ o : LS, d = lsD o ∧ Q (.int o.size) S
def spEarly : ASp := fun ds S Q _ => opt (one1 ds) fun d => ∃ o : LS, d = lsD o ∧ Q (.lst (intD (intsN (memL o.f o.first)))) S
def spRests : ASp := fun ds S Q _ => opt (one1 ds) fun d => ∃ o : LS, d = lsD o ∧ Q (.lst (intD (intsN (tailL o.f o.first o.size)))) S
def spEarlyM : ASp := fun ds S Q _ => opt (one1 ds) fun d => ∃ o : LS, d = lsD o ∧ Q (.ref S.length) (S ++ [.lst (intD (intsN (memL o.f o.first)))])
def spRestsM : ASp := fun ds S Q _ => opt (one1 ds) fun d => ∃ o : LS, d = lsD o ∧ Q (.ref S.length) (S ++ [.lst (intD (intsN (tailL o.f o.first o.size)))])
section
variable {P : Program} {w : World} {K : PySem.W.Frag} {cA : Str → Addr} {mg : Str → Option Value} {base : Heap} {f p : Addr} {fd : FuncData}
theorem d_scont (D : MDf K "__contains__" "LengthSet.__contains__" s_scont ["self", "thing"] f fd) (T : Bn mg) (L : LSc K cA mg) (cK : Fnc P w K mg base 1 "is_count" (upSp ⟨K, cA⟩ spCount))
    (hf : PySem.W.findIn K (.ref (cA "LengthSet")) "__contains__" = some (some (.ref f))) (hi : PySem.W.isFn K (.ref f) = true) : Own P w K mg base 2 (cA "LengthSet") "__contains__" (upSp ⟨K, cA⟩ spHas) := by
  refine ⟨f, hf, hi, fnR_of (def_ok (k := 1) D.F sc_scont (fun cdv A outer s H E hr => (js_cons (js_if (jt_not (jt_val (j_fc cK hr (by omega) rfl (L2N.passAt (L2N.takes_of rfl rfl rfl rfl)) (ja_cons (jv 1) ja_nil))))
      (js_one (js_ret j_bl))
      js_nil)
    (js_cons (js_if (jt_cmp op_lt os_lt (jv 1) (j_fld (C := "LengthSet") L.first (jv 0) rfl) (nomark _))
      (js_one (js_ret (j_cmp (kop_in_seq K) (os_in (neg := false)) (jv 1) (j_fld (C := "LengthSet") L.members (jv 0) rfl) rfl)))
      js_nil)
    (js_one (js_ret (j_cmp (kop_in_seq K) (os_in (neg := false)) (j_op op_mod os_mod (jv 1) (j_fld (C := "LengthSet") L.size (jv 0) rfl)) (j_fld (C := "LengthSet") L.tail (jv 0) rfl) rfl)))))) ?_ ?_) D.b⟩
  · intro ds S Q E h
    obtain ⟨a, b, rfl, _⟩ := opt_two h
    rfl
  · intro ds S Q E h
    obtain ⟨x1, x2, rfl, o, d, eq, hd, q⟩ := opt_two h
    clear h
    cases eq
    simp_arith [spCount]
    refine ⟨hd, ?_⟩
    by_cases c0 : isCnt x2 = false
    · rw [if_pos c0]
      have e : hasD o x2 = false := by
        cases x2 <;> first | rfl | (simp only [isCnt] at c0; simp only [hasD, c0, Bool.false_and])
      rw [e] at q
      exact q
    rw [if_neg c0]
    obtain ⟨j, rfl, hj⟩ := cnt_int c0
    obtain ⟨n, rfl⟩ := Int.eq_ofNat_of_zero_le hj
    have e : hasD o (.int (n : Int)) = o.f n := by simp [hasD]
    rw [e] at q
    have hb := hasN_back o.ok.per o.size_pos n
    unfold hasN at hb
    simp_arith [ins_ls, f_first, f_size, f_members, f_tail, any_ints, all_flt]
    by_cases hn : n < o.first
    · rw [if_pos hn] at hb
      rw [if_pos (show (n : Int) < (o.first : Int) by omega), hb]
      exact q
    · rw [if_neg hn] at hb
      rw [if_neg (show ¬ (n : Int) < (o.first : Int) by omega), ← Int.natCast_emod, hb]
      exact ⟨by have := o.size_pos; omega, q⟩
theorem tup_inj {a b : List Nat} : intD (intsN a) = intD (intsN b) ↔ a = b := by
  unfold intD intsN
  rw [List.map_map, List.map_map]
  exact ⟨fun h => (List.map_inj_right (f := A.D.int ∘ fun (n : Nat) => (n : Int)) fun x y e => Int.ofNat.inj (A.D.int.inj e)).mp h, fun h => by rw [h]⟩
theorem eqv_ints : ∀ {a b : List Int}, PyData.eqvAll (pds (intD a)) (pds (intD b)) = decide (a = b)
  | [], [] => rfl
  | [], _ :: _ => rfl
  | _ :: _, [] => rfl
  | x :: a, y :: b => by
    have ih := eqv_ints (a := a) (b := b)
    unfold intD at ih ⊢
    simp only [List.map_cons, pds, PyData.eqvAll, ih, pd, PyData.eqv, List.cons.injEq]
    rw [Bool.eq_iff_iff]
    simp
theorem eqD_tints {a b : List Int} : eqD (.tup (intD a)) (.tup (intD b)) = decide (a = b) := eqv_ints
theorem eqD_lints {a b : List Int} : eqD (.lst (intD a)) (.lst (intD b)) = decide (a = b) := eqv_ints
theorem dt_ints {k : Nat} {a : List Int} : ∀ x ∈ intD a, Dt k x := fun x hx => by
  obtain ⟨i, _, rfl⟩ := List.mem_map.mp hx
  exact .int
theorem dat_tints {a : List Int} : dat (.tup (intD a)) = true := ((Dt.tup (k := 0) dt_ints).up (by decide)).dat
theorem dat_lints {a : List Int} : dat (.lst (intD a)) = true := ((Dt.lst (k := 0) dt_ints).up (by decide)).dat
theorem ints_inj {a b : List Nat} : intsN a = intsN b ↔ a = b := by
  unfold intsN
  exact ⟨fun h => (List.map_inj_right fun x y e => Int.ofNat.inj e).mp h, fun h => by rw [h]⟩
theorem d_seq (D : MDf K "__eq__" "LengthSet.__eq__" s_seq ["self", "other"] f fd) (T : Bn mg) (L : LSc K cA mg) (iLS : C8.InsC K (cA "LengthSet")) (tiLS : ∀ T ∈ ["list", "tuple", "int", "NoneType", "str", "bool"], PySem.W.kitOne K (.type T) (.ref (cA "LengthSet")) = some false)
    (hf : PySem.W.findIn K (.ref (cA "LengthSet")) "__eq__" = some (some (.ref f))) (hi : PySem.W.isFn K (.ref f) = true) : Own P w K mg base 1 (cA "LengthSet") "__eq__" (upSp ⟨K, cA⟩ spEqL) := by
  refine ⟨f, hf, hi, fnR_of (def_ok (k := 0) D.F sc_seq (fun cdv A outer s H E hr => (js_one (js_ret (j_and (j_callB (call_isiC K iLS) (cs_isiC (Ts := ["list", "tuple", "int", "NoneType", "str", "bool"]) tiLS) (by rfl) T.isinstance (by decide +kernel) (ja_cons (jv 1) (ja_cons (j_gcls (by rfl) L.gl) ja_nil))) (j_and (j_cmp (op_eqA K hr.units) os_eq (j_fld (C := "LengthSet") L.first (jv 0) rfl) (j_fld (C := "LengthSet") L.first (jv 1) rfl) (nomark _)) (j_and (j_cmp (op_eqA K hr.units) os_eq (j_fld (C := "LengthSet") L.size (jv 0) rfl) (j_fld (C := "LengthSet") L.size (jv 1) rfl) (nomark _)) (j_and (j_cmp (op_eqA K hr.units) os_eq (j_fld (C := "LengthSet") L.members (jv 0) rfl) (j_fld (C := "LengthSet") L.members (jv 1) rfl) (nomark _)) (j_one (j_cmp (op_eqA K hr.units) os_eq (j_fld (C := "LengthSet") L.tail (jv 0) rfl) (j_fld (C := "LengthSet") L.tail (jv 1) rfl) (nomark _)))))))))) ?_ ?_) D.b⟩
  · intro ds S Q E h
    obtain ⟨a, b, rfl, _⟩ := opt_two h
    rfl
  · intro ds S Q E h
    obtain ⟨x1, x2, rfl, o, d, eq, hh⟩ := opt_two h
    clear h
    cases eq
    rcases hh with ⟨o2, rfl, q⟩ | ⟨⟨ty, ht, hm⟩, q⟩
    · simp_arith [fIsiC, ins_ls, f_first, f_size, f_members, f_tail, v_dEq_tup, eqD_tints, dat_tints, ints_inj]
      have same : o.f = o2.f → o = o2 := LS.ext
      by_cases c1 : o.first = o2.first
      · by_cases c2 : o.size = o2.size
        · by_cases c3 : memL o.f o.first = memL o2.f o2.first
          · rw [if_pos (by omega), if_pos (by omega)]
            rw [if_pos c3]
            refine q _ ?_
            rw [decide_eq_true_eq]
            exact ⟨fun c4 => by rw [LS.same c1 c2 c3 c4], fun e => by rw [same e]⟩
          · rw [if_pos (by omega), if_pos (by omega), if_neg c3]
            exact q false ⟨fun z => (by cases z), fun e => (c3 (by rw [same e])).elim⟩
        · rw [if_pos (by omega), if_neg (by omega)]
          exact q false ⟨fun z => (by cases z), fun e => (c2 (by rw [same e])).elim⟩
      · rw [if_neg (by omega)]
        exact q false ⟨fun z => (by cases z), fun e => (c1 (by rw [same e])).elim⟩
    · have hn : insOf S x2 "LengthSet" = none := by
        cases x2 <;> first | rfl | skip
        · cases ht
        · rename_i m
          simp only [tyN] at ht
          simp only [insOf]
          split <;> simp_all
      simp_arith [fIsiC, hn, ht]
      exact ⟨hm, q⟩
theorem d_pstart (D : MDf K "start" "LengthSet.start" s_pstart ["self"] f fd) (L : LSc K cA mg) (hp : PropOf K (cA "LengthSet") "start" p f) : Prp P w K mg base 1 (cA "LengthSet") "start" (upSp ⟨K, cA⟩ spFirst) := by
  refine prp_of (def_ok (k := 0) D.F sc_pstart (fun cdv A outer s H E hr => (js_one (js_ret (j_fld (C := "LengthSet") L.first (jv 0) rfl)))) ?_ ?_) D.b L.first.1 hp
  · intro ds S Q E h
    obtain ⟨a, rfl, _⟩ := opt_one h
    rfl
  · intro ds S Q E h
    obtain ⟨x1, rfl, o, rfl, q⟩ := opt_one h
    simp_arith [ins_ls, f_first]
    exact q
theorem d_pperiod (D : MDf K "period" "LengthSet.period" s_pperiod ["self"] f fd) (L : LSc K cA mg) (hp : PropOf K (cA "LengthSet") "period" p f) : Prp P w K mg base 1 (cA "LengthSet") "period" (upSp ⟨K, cA⟩ spSize) := by
  refine prp_of (def_ok (k := 0) D.F sc_pperiod (fun cdv A outer s H E hr => (js_one (js_ret (j_fld (C := "LengthSet") L.size (jv 0) rfl)))) ?_ ?_) D.b L.first.1 hp
  · intro ds S Q E h
    obtain ⟨a, rfl, _⟩ := opt_one h
    rfl
  · intro ds S Q E h
    obtain ⟨x1, rfl, o, rfl, q⟩ := opt_one h
    simp_arith [ins_ls, f_size]
    exact q
theorem d_pearly (D : MDf K "early" "LengthSet.early" s_pearly ["self"] f fd) (T : Bn mg) (L : LSc K cA mg) (hp : PropOf K (cA "LengthSet") "early" p f) : Prp P w K mg base 1 (cA "LengthSet") "early" (upSp ⟨K, cA⟩ spEarly) := by
  refine prp_of (def_ok (k := 0) D.F sc_pearly (fun cdv A outer s H E hr => (js_one (js_ret (j_callTy (kcall_list_of K) cs_list (by rfl) T.list (by decide +kernel) (ja_cons (j_fld (C := "LengthSet") L.members (jv 0) rfl) ja_nil))))) ?_ ?_) D.b L.first.1 hp
  · intro ds S Q E h
    obtain ⟨a, rfl, _⟩ := opt_one h
    rfl
  · intro ds S Q E h
    obtain ⟨x1, rfl, o, rfl, q⟩ := opt_one h
    simp_arith [ins_ls, f_members]
    exact q
theorem d_prests (D : MDf K "rests" "LengthSet.rests" s_prests ["self"] f fd) (T : Bn mg) (L : LSc K cA mg) (hp : PropOf K (cA "LengthSet") "rests" p f) : Prp P w K mg base 1 (cA "LengthSet") "rests" (upSp ⟨K, cA⟩ spRests) := by
  refine prp_of (def_ok (k := 0) D.F sc_prests (fun cdv A outer s H E hr => (js_one (js_ret (j_callTy (kcall_list_of K) cs_list (by rfl) T.list (by decide +kernel) (ja_cons (j_fld (C := "LengthSet") L.tail (jv 0) rfl) ja_nil))))) ?_ ?_) D.b L.first.1 hp
  · intro ds S Q E h
    obtain ⟨a, rfl, _⟩ := opt_one h
    rfl
  · intro ds S Q E h
    obtain ⟨x1, rfl, o, rfl, q⟩ := opt_one h
    simp_arith [ins_ls, f_tail]
    exact q
theorem d_pearlyM (D : MDf K "early" "LengthSet.early" s_pearly ["self"] f fd) (T : Bn mg) (L : LSc K cA mg) (hp : PropOf K (cA "LengthSet") "early" p f) : Prp P w K mg base 1 (cA "LengthSet") "early" (upSp ⟨K, cA⟩ spEarlyM) := by
  refine prp_of (def_ok (k := 0) D.F sc_pearly (fun cdv A outer s H E hr => (js_one (js_ret (j_callTy (kcall_list_of K) cs_listM (by rfl) T.list (by decide +kernel) (ja_cons (j_fld (C := "LengthSet") L.members (jv 0) rfl) ja_nil))))) ?_ ?_) D.b L.first.1 hp
  · intro ds S Q E h
    obtain ⟨a, rfl, _⟩ := opt_one h
    rfl
  · intro ds S Q E h
    obtain ⟨x1, rfl, o, rfl, q⟩ := opt_one h
    simp_arith [ins_ls, f_members]
    exact q
theorem d_prestsM (D : MDf K "rests" "LengthSet.rests" s_prests ["self"] f fd) (T : Bn mg) (L : LSc K cA mg) (hp : PropOf K (cA "LengthSet") "rests" p f) : Prp P w K mg base 1 (cA "LengthSet") "rests" (upSp ⟨K, cA⟩ spRestsM) := by
  refine prp_of (def_ok (k := 0) D.F sc_prests (fun cdv A outer s H E hr => (js_one (js_ret (j_callTy (kcall_list_of K) cs_listM (by rfl) T.list (by decide +kernel) (ja_cons (j_fld (C := "LengthSet") L.tail (jv 0) rfl) ja_nil))))) ?_ ?_) D.b L.first.1 hp
  · intro ds S Q E h
    obtain ⟨a, rfl, _⟩ := opt_one h
    rfl
  · intro ds S Q E h
    obtain ⟨x1, rfl, o, rfl, q⟩ := opt_one h
    simp_arith [ins_ls, f_tail]
    exact q
end


open Sm
/-! ### sets that are drawn -/
abbrev s_lsome : Stmt := (topS 27)
theorem sc_lsome : FnScope ["pool", "size", "found", "number"] ["pool", "size"] (defScope s_lsome) := ⟨rfl, rfl, rfl, by decide +kernel, rfl, by decide +kernel, by decide +kernel⟩
abbrev s_lfields : Stmt := (topS 28)
theorem sc_lfields : FnScope ["pool", "first", "early", "rhythm"] ["pool"] (defScope s_lfields) := ⟨rfl, rfl, rfl, by decide +kernel, rfl, by decide +kernel, by decide +kernel⟩
abbrev s_lhas : Stmt := (topS 29)
theorem sc_lhas : FnScope ["fields", "number"] ["fields", "number"] (defScope s_lhas) := ⟨rfl, rfl, rfl, by decide +kernel, rfl, by decide +kernel, by decide +kernel⟩
def fltD (p : Nat → Bool) (n : Nat) : List A.D := intD (intsN ((List.range n).filter p))
def fdD (a p : Nat) (u v : Nat → Bool) : A.D := .tup [.lst (fltD u a), .int a, .int p, .lst (fltD v p)]
def fdF (a p : Nat) (u v : Nat → Bool) : Nat → Bool := hasN (intsN ((List.range a).filter u)) (intsN ((List.range p).filter v)) a p
def spSome : ASp := fun ds S Q _ => opt (two2 ds) fun q => ∃ m n : Nat, q = (.ref m, .int n) ∧ Pl S m ∧ n ≤ 5000 ∧ ∀ (p : Nat → Bool) S', Chg [m] S S' → Pl S' m → Q (.lst (fltD p n)) S'
def spFields : ASp := fun ds S Q _ => opt (one1 ds) fun d => ∃ m : Nat, d = .ref m ∧ Pl S m ∧ ∀ (a p : Nat) (u v : Nat → Bool) S', a ≤ 5 → 1 ≤ p → p ≤ 4 → Chg [m] S S' → Pl S' m → Q (fdD a p u v) S'
def spLhas : ASp := fun ds S Q _ => opt (two2 ds) fun q => ∃ (es rs : A.D) (l1 l2 : List Int) (a p n : Nat), q = (.tup [es, .int a, .int p, rs], .int n) ∧ sv S es = some (intD l1) ∧ sv S rs = some (intD l2) ∧ 0 < p ∧ Q (.bl (hasN l1 l2 a p n)) S
theorem chg_app {m : Nat} {S S' : Sto} {x : O} (h : Chg [m] (S ++ [x]) S') (hm : m < S.length) : ∃ S1, S' = S1 ++ [x] ∧ Chg [m] S S1 := by
  have hl : S'.length = S.length + 1 := by rw [h.1]; simp
  refine ⟨S'.take S.length, ?_, by simp [hl], fun k hk => ?_⟩
  · refine List.ext_getElem? fun i => ?_
    by_cases c : i < S.length
    · rw [List.getElem?_append_left (by simp [hl, c])]
      rw [List.getElem?_take_of_lt c]
    · by_cases c2 : i = S.length
      · subst c2
        rw [h.2 _ (by simp; omega), List.getElem?_append_right (Nat.le_refl _), List.getElem?_append_right (by simp [hl])]
        simp [hl]
      · rw [List.getElem?_eq_none (by omega), List.getElem?_eq_none (by simp [hl]; omega)]
  · by_cases c : k < S.length
    · rw [List.getElem?_take_of_lt c, h.2 k hk, List.getElem?_append_left c]
    · rw [List.getElem?_eq_none (by simp [hl]; omega), List.getElem?_eq_none (by omega)]
theorem pl_app {S : Sto} {m : Nat} {x : O} (h : Pl S m) : Pl (S ++ [x]) m := by
  obtain ⟨o, e, z⟩ := h
  exact ⟨o, by rw [List.getElem?_append_left (List.getElem?_eq_some_iff.mp e).1]; exact e, z⟩
theorem pl_lt {S : Sto} {m : Nat} (h : Pl S m) : m < S.length := by
  obtain ⟨o, e, _⟩ := h
  exact (List.getElem?_eq_some_iff.mp e).1
theorem pl_un {S : Sto} {m : Nat} {x : O} (h : Pl (S ++ [x]) m) (hm : m < S.length) : Pl S m := by
  obtain ⟨o, e, z⟩ := h
  exact ⟨o, by rw [List.getElem?_append_left hm] at e; exact e, z⟩
theorem cut_pool {S S1 : Sto} {m : Nat} (h : Chg [m] S S1) (hp : Pl S1 m) : ∀ (i : Nat) (o : O), S1[i]? = some o → S[i]? = some o ∨ clO S.length o = true := fun i o e => by
  by_cases c : i = m
  · subst c
    obtain ⟨o', e', a, b, rfl, _⟩ := hp
    rw [e] at e'
    cases e'
    exact .inr rfl
  · exact .inl (by rw [← h.2 i (by simpa using c)]; exact e)
theorem flt_succ {p : Nat → Bool} {k : Nat} {b : Bool} : (List.range (k + 1)).filter (fun i => if i = k then b else p i) = (List.range k).filter p ++ (if b = true then [k] else []) := by
  rw [List.range_succ, List.filter_append]
  have e1 : (List.range k).filter (fun i => if i = k then b else p i) = (List.range k).filter p := List.filter_congr fun i hi => by
    rw [if_neg (by have := List.mem_range.mp hi; omega)]
  rw [e1]
  cases b <;> simp
theorem cls_flt {N : Nat} {p : Nat → Bool} {n : Nat} : cls N (fltD p n) = true := cls_ints
section
variable {P : Program} {w : World} {K : PySem.W.Frag} {cA : Str → Addr} {mg : Str → Option Value} {base : Heap} {f : Addr} {fd : FuncData}
theorem d_lsome (D : Dfn K mg "_law_some" s_lsome ["pool", "size"] f fd) (T : Bn mg) (cD : Fnc P w K mg base 1 "_law_draw" (upSp ⟨K, cA⟩ spDraw)) : Fnc P w K mg base 2 "_law_some" (upSp ⟨K, cA⟩ spSome) := by
  refine (D.fnc (sp := upSp ⟨K, cA⟩ fun ds S Q E => opt (two2 ds) fun q => ∃ m n : Nat, q = (.ref m, .int n) ∧ Pl S m ∧ n ≤ 5000 ∧ ∀ (p : Nat → Bool) S', Chg [m] S S' → Pl S' m → Q (.ref S'.length) (S' ++ [.lst (fltD p n)])) (def_ok (k := 1) D.F sc_lsome (fun cdv A outer s H E hr => (js_cons (js_set (i := 2) sc_lsome.nd rfl (Or.inl rfl) (j_lstM ja_nil))
    (js_cons (js_for (vs := [0, 1, 2, 3]) (gl_name (i := 3) (by decide)) (passes_of rfl) rfl (ji_range1 rfl T.range (ja_cons (jv 1) ja_nil)) (pg_name (i := 3) sc_lsome.nd rfl (Or.inl rfl))
      (js_one (js_if (jt_cmp (op_eqA K hr.units) os_eq (j_fc cD hr (by omega) rfl (L2N.passAt (L2N.takes_of rfl rfl rfl rfl)) (ja_cons (jv 0) (ja_cons j_int ja_nil))) j_int (nomark _))
        (js_one (js_expr (j_append (jv 2) (ja_cons (jv 3) ja_nil))))
        js_nil)))
    (js_one (js_ret (jv 2)))))) ?_ ?_)).cut2 ?_
  · intro ds S Q E h
    obtain ⟨a, b, rfl, _⟩ := opt_two h
    rfl
  · intro ds S Q E h
    obtain ⟨x1, x2, rfl, m, n, eq, hp, hn, q⟩ := opt_two h
    clear h
    cases eq
    simp_arith
    refine ⟨⟨by omega, by omega⟩, ?_⟩
    rw [Int.toNat_natCast, show (0 : Int) = ((0 : Nat) : Int) from rfl, rng_eq]
    refine forX_by (fun r ρ S' => ∃ (k j : Nat) (p : Nat → Bool) (S1 : Sto) (o : Option A.D), r = (List.range' k j).map (fun (j : Nat) => A.D.int (j : Int)) ∧ k + j = n ∧ ρ = [some (.ref m), some (.int (n : Int)), some (.ref S.length), o] ∧ S' = S1 ++ [.lst (fltD p k)] ∧ Chg [m] S S1 ∧ Pl S1 m) ?_ ?_
      ⟨0, n, fun _ => false, S, _, rfl, by omega, rfl, rfl, Chg.refl _ _, hp⟩
    · rintro ρ S' ⟨k, j, p, S1, o, e, hk, rfl, rfl, hc, hp1⟩
      have j0 : j = 0 := by
        cases j with
        | zero => rfl
        | succ m => simp [List.range'] at e
      subst j0
      have kn : k = n := by omega
      subst kn
      simp_arith
      rw [← hc.1]
      exact q p S1 hc hp1
    · rintro x r ρ S' ⟨k, j, p, S1, o, e, hk, rfl, rfl, hc, hp1⟩ F hF
      cases j with
      | zero => simp at e
      | succ j =>
        obtain ⟨rfl, rfl⟩ : x = .int (k : Int) ∧ r = (List.range' (k + 1) j).map (fun (j : Nat) => A.D.int (j : Int)) := by simpa [List.range'] using e
        have hm := pl_lt hp1
        simp_arith [spDraw]
        refine ⟨m, 2, rfl, pl_app hp1, by decide, by decide, fun d S' d0 d1 hc2 hp2 => ?_⟩
        obtain ⟨S2, rfl, hc3⟩ := chg_app hc2 hm
        clear hc2
        have hc2 := hc3
        have hm2 : m < S2.length := by rw [hc2.1]; exact hm
        have hp2 := pl_un hp2 hm2
        have len : S.length = S2.length := by rw [hc2.1, hc.1]
        have nx : ∀ b, F [some (.ref m), some (.int (n : Int)), some (.ref S.length), some (.int (k : Int))] (S2 ++ [.lst (fltD (fun i => if i = k then b else p i) (k + 1))]) := fun b => hF _ _ ⟨k + 1, j, _, S2, _, rfl, by omega, rfl, rfl, hc.trans hc2, hp2⟩
        have lA : ∀ l, lstAt (S2 ++ [O.lst l]) S.length = some l := fun l => lstAt_of (by rw [len]; simp)
        have lS : ∀ l l', (S2 ++ [O.lst l]).set S.length (O.lst l') = S2 ++ [O.lst l'] := fun l l' => by rw [len]; simp
        have ln : ∀ l, isL (S2 ++ [O.lst l]) (.ref S.length) = some S.length := fun l => by simp [isL, refOf, lA]
        simp_arith [lA, lS]
        by_cases c : d = 1
        · rw [if_pos c]
          have := nx true
          unfold fltD at this ⊢
          rw [flt_succ, if_pos rfl] at this
          refine ⟨?_, ?_⟩
          · have : (intD (intsN (List.filter p (List.range k)))).length ≤ k := by
              unfold intD intsN
              rw [List.length_map, List.length_map]
              exact Nat.le_trans (List.length_filter_le _ _) (by simp)
            exact Nat.lt_of_le_of_lt this (Nat.lt_of_le_of_lt (show k ≤ 5000 by omega) (by decide))
          · simpa [intD, intsN] using this
        · rw [if_neg c]
          have := nx false
          unfold fltD at this ⊢
          rw [flt_succ, if_neg (by decide), List.append_nil] at this
          exact this
  · intro ds S Q E h
    obtain ⟨x1, x2, rfl, m, n, eq, hp, hn, q⟩ := opt_two h
    refine ⟨m, n, eq, hp, hn, fun p S' hc hp' => ⟨S', [_], .lst (fltD p n), rfl, hc.1, cut_pool hc hp', ?_, q p S' hc hp'⟩⟩
    rw [← hc.1]
    simp [frz, cls_flt]
theorem d_lfields (D : Dfn K mg "_law_fields" s_lfields ["pool"] f fd) (T : Bn mg) (cD : Fnc P w K mg base 1 "_law_draw" (upSp ⟨K, cA⟩ spDraw)) (cSo : Fnc P w K mg base 2 "_law_some" (upSp ⟨K, cA⟩ spSome)) : Fnc P w K mg base 3 "_law_fields" (upSp ⟨K, cA⟩ spFields) := by
  refine D.fnc (def_ok (k := 2) D.F sc_lfields (fun cdv A outer s H E hr => (js_cons (js_set (i := 1) sc_lfields.nd rfl (Or.inl rfl) (j_fc cD hr (by omega) rfl (L2N.passAt (L2N.takes_of rfl rfl rfl rfl)) (ja_cons (jv 0) (ja_cons j_int ja_nil))))
    (js_cons (js_set (i := 2) sc_lfields.nd rfl (Or.inl rfl) (j_fc cSo hr (by omega) rfl (L2N.passAt (L2N.takes_of rfl rfl rfl rfl)) (ja_cons (jv 0) (ja_cons (jv 1) ja_nil))))
    (js_cons (js_set (i := 3) sc_lfields.nd rfl (Or.inl rfl) (j_op (op_addA K) os_add j_int (j_fc cD hr (by omega) rfl (L2N.passAt (L2N.takes_of rfl rfl rfl rfl)) (ja_cons (jv 0) (ja_cons j_int ja_nil)))))
    (js_one (js_ret (j_tup (ja_cons (jv 2) (ja_cons (jv 1) (ja_cons (jv 3) (ja_cons (j_fc cSo hr (by omega) rfl (L2N.passAt (L2N.takes_of rfl rfl rfl rfl)) (ja_cons (jv 0) (ja_cons (jv 3) ja_nil))) ja_nil))))))))))) ?_ ?_)
  · intro ds S Q E h
    obtain ⟨a, rfl, _⟩ := opt_one h
    rfl
  · intro ds S Q E h
    obtain ⟨x1, rfl, m, rfl, hp, q⟩ := opt_one h
    clear h
    simp_arith [spDraw, spSome]
    refine ⟨m, 6, rfl, hp, by decide, by decide, fun a S1 a0 a1 c1 p1 => ?_⟩
    obtain ⟨a, rfl⟩ := Int.eq_ofNat_of_zero_le a0
    refine ⟨m, a, rfl, p1, by omega, fun u S2 c2 p2 => ?_⟩
    try simp_arith
    refine ⟨m, 4, rfl, p2, by decide, by decide, fun p S3 b0 b1 c3 p3 => ?_⟩
    obtain ⟨p, rfl⟩ := Int.eq_ofNat_of_zero_le b0
    have e : (1 : Int) + (p : Int) = ((p + 1 : Nat) : Int) := by omega
    simp_arith [e]
    refine ⟨m, p + 1, rfl, p3, by omega, fun v S4 c4 p4 => ?_⟩
    have := q a (p + 1) u v S4 (by omega) (by omega) (by omega) (((c1.trans c2).trans c3).trans c4) p4
    unfold fdD at this
    exact this
theorem d_lhas (D : Dfn K mg "_law_has" s_lhas ["fields", "number"] f fd) (T : Bn mg) : Fnc P w K mg base 1 "_law_has" (upSp ⟨K, cA⟩ spLhas) := by
  refine D.fnc (def_ok (k := 0) D.F sc_lhas (fun cdv A outer s H E hr => (js_cons (js_if (jt_cmp op_lt os_lt (jv 1) (j_ix (kix_lt K) os_ix (jv 0) j_int (fun _ _ => rfl)) (nomark _))
      (js_one (js_ret (j_cmp (kop_in_seq K) (os_in (neg := false)) (jv 1) (j_ix (kix_lt K) os_ix (jv 0) j_int (fun _ _ => rfl)) rfl)))
      js_nil)
    (js_one (js_ret (j_cmp (kop_in_seq K) (os_in (neg := false)) (j_op op_mod os_mod (j_callTy call_int1 cs_int (by rfl) T.int (by decide +kernel) (ja_cons (jv 1) ja_nil)) (j_ix (kix_lt K) os_ix (jv 0) j_int (fun _ _ => rfl))) (j_ix (kix_lt K) os_ix (jv 0) j_int (fun _ _ => rfl)) rfl))))) ?_ ?_)
  · intro ds S Q E h
    obtain ⟨a, b, rfl, _⟩ := opt_two h
    rfl
  · intro ds S Q E h
    obtain ⟨x1, x2, rfl, es, rs, l1, l2, a, p, n, eq, h1, h2, p0, q⟩ := opt_two h
    clear h
    cases eq
    unfold hasN at q
    simp_arith [h1, h2, any_ints, all_flt, ← Int.natCast_emod]
    by_cases c : n < a
    · rw [if_pos c] at q
      rw [if_pos (show (n : Int) < (a : Int) by omega)]
      exact q
    · rw [if_neg c] at q
      rw [if_neg (show ¬ (n : Int) < (a : Int) by omega)]
      exact ⟨by omega, q⟩
end


open Sm
/-! ### plain pieces of the laws over sets -/
theorem ascL_of {b : Int} : ∀ {l : List Int} {bef : Int}, l.Pairwise (· < ·) → (∀ x ∈ l, bef < x ∧ 0 ≤ x ∧ x < b) → ascL b (intD l) bef = true
  | [], _, _, _ => rfl
  | x :: l, bef, hp, h => by
    obtain ⟨h1, h2⟩ := List.pairwise_cons.mp hp
    obtain ⟨a1, a2, a3⟩ := h x (by simp)
    show ascL b (.int x :: intD l) bef = true
    rw [ascL_int, decide_eq_true a2, decide_eq_true a1, decide_eq_true a3, ascL_of h2 fun y hy => ⟨h1 y hy, (h y (by simp [hy])).2⟩]
    rfl
theorem asc_flt {u : Nat → Bool} {a : Nat} : ascL (a : Int) (fltD u a) (-1) = true := ascL_of (asc_range a) fun x hx => by
  have := bnd_range x hx
  omega
theorem right_flt {a p : Nat} {u v : Nat → Bool} (ha : a ≤ 5000) (p0 : 0 < p) (hp : p ≤ 5000) : wrongSet (.lst (fltD u a)) (.int a) (.int p) (.lst (fltD v p)) = none := by
  unfold wrongSet
  have e1 : isAsc (numI (.int (a : Int))) (.lst (fltD u a)) = true := asc_flt
  have e2 : isAsc (numI (.int (p : Int))) (.lst (fltD v p)) = true := asc_flt
  have n1 : isCnt (.int (a : Int)) = true := by simp [isCnt]
  have n2 : isCnt (.int (p : Int)) = true := by simp [isCnt]
  rw [if_neg (by rw [n1]; decide), if_neg (by simp only [numI]; omega), if_neg (by rw [n2]; simp only [numI]; rintro (z | z); cases z; omega), if_neg (by simp only [numI]; omega), e1, e2]
  rfl
theorem nums_flt {u : Nat → Bool} {a : Nat} : numsD (.lst (fltD u a)) = intsN ((List.range a).filter u) := by
  unfold numsD sqOf fltD intD
  simp only
  rw [List.map_map]
  conv => rhs; rw [← List.map_id (intsN ((List.range a).filter u))]
  exact List.map_congr_left fun _ _ => rfl
theorem setF_flt {a p : Nat} {u v : Nat → Bool} : setF (.lst (fltD u a)) (.int a) (.int p) (.lst (fltD v p)) = fdF a p u v := by
  unfold setF fdF
  rw [nums_flt, nums_flt]
  simp [numI]
theorem pd_flt {u : Nat → Bool} {a : Nat} : isPd (.lst (fltD u a)) = true := by
  have : ∀ l : List Int, isPds (intD l) = true := fun l => by
    induction l with
    | nil => rfl
    | cons x l ih => simpa [intD, isPds, isPd] using ih
  show isPds (fltD u a) = true
  exact this _
theorem lc_rngA {g : AG} {tt : AM Bool} {te : AM A.D} {ρ : Ev} {Q : List A.D → Sto → Prop} {S : Sto} (p : Nat → Bool) (f : Nat → A.D) {a n : Nat} (hn : n ≤ 1000000)
    (h : ∀ i, a ≤ i → i < a + n → ∀ (Y : A.D → Sto → Prop) (F : Sto → Prop), (p i = true → Y (f i) S) → (p i = false → F S) → g (.int (i : Int)) ρ fun ρ2 => tt ρ2 S (fun b S3 => if b = true then te ρ2 S3 Y (fun _ _ => False) else F S3) fun _ _ => False)
    (q : Q (((List.range' a n).filter p).map f) S) : lcX g tt te ρ Q (rng (a : Int) n) [] S := by
  rw [rng_eq]
  refine lcX_map (fun d => p (numI d).toNat) (fun d => f (numI d).toNat) (by simpa using hn) (fun x hx Y F hY hF => ?_) ?_
  · obtain ⟨i, hi, rfl⟩ := List.mem_map.mp hx
    have := List.mem_range'_1.mp hi
    exact h i this.1 this.2 Y F hY hF
  · rw [List.filter_map, List.map_map]
    exact q
/-- a loop over range(a, a + n) that changes nothing -/
theorem for_rng {g : AG} {tb : AS} {De : EndsA} {a n : Nat} {S : Sto} (Pv : Ev → Prop) (hn : ∀ ρ, Pv ρ → De.nx ρ S) (hc : ∀ i ρ, a ≤ i → i < a + n → Pv ρ → ∀ F : Ev → Sto → Prop, (∀ ρ', Pv ρ' → F ρ' S) → g (.int (i : Int)) ρ fun ρ1 => tb { De with nx := F, ct := F, bk := De.nx } ρ1 S)
    {ρ : Ev} (h : Pv ρ) : forX g tb De (rng (a : Int) n) ρ S := by
  rw [rng_eq]
  refine forX_by (fun r ρ S' => ∃ k j, r = (List.range' k j).map (fun (j : Nat) => A.D.int (j : Int)) ∧ a ≤ k ∧ k + j = a + n ∧ Pv ρ ∧ S' = S) ?_ ?_ ⟨a, n, rfl, Nat.le_refl _, rfl, h, rfl⟩
  · rintro ρ S' ⟨k, j, _, _, _, hp, rfl⟩
    exact hn ρ hp
  · rintro x r ρ S' ⟨k, j, e, hk, hj, hp, rfl⟩ F hF
    cases j with
    | zero => simp at e
    | succ j =>
      obtain ⟨rfl, rfl⟩ : x = .int (k : Int) ∧ r = (List.range' (k + 1) j).map (fun (j : Nat) => A.D.int (j : Int)) := by simpa [List.range'] using e
      exact hc k ρ hk (by omega) hp F fun ρ' hp' => hF _ _ ⟨k + 1, j, rfl, by omega, by omega, hp', rfl⟩
theorem mk_by {e s p r : A.D} {S : Sto} {Q : QD} {E : XQ} (hp : (isPd e && (isPd s && (isPd p && isPd r))) = true) (hw : wrongSet e s p r = none) (q : ∀ o : LS, o.f = setF e s p r → Q (lsD o) S) : spMk [e, s, p, r] S Q E := by
  simp only [Bool.and_eq_true] at hp
  exact ⟨e, s, p, r, rfl, hp.1, hp.2.1, hp.2.2.1, hp.2.2.2, fun y hy => (by rw [hw] at hy; cases hy), fun _ o h _ _ => q o h⟩
theorem eq_by {o o' : LS} {S : Sto} {Q : QD} {E : XQ} (b : Bool) (hb : b = true ↔ o.f = o'.f) (q : Q (.bl b) S) : spEqL [lsD o, lsD o'] S Q E := ⟨o, _, rfl, .inl ⟨o', rfl, fun c hc => by
  have : c = b := by rw [Bool.eq_iff_iff, hc, hb]
  rw [this]; exact q⟩⟩
mutual
theorem pd_cl {N : Nat} : ∀ {d : A.D}, isPd d = true → cl N d = true
  | .non, _ => rfl
  | .bl _, _ => rfl
  | .int _, _ => rfl
  | .str _, _ => rfl
  | .tup xs, h => by simp only [cl]; exact pds_cl (by simpa [isPd] using h)
  | .lst xs, h => by simp only [cl]; exact pds_cl (by simpa [isPd] using h)
  | .obj _ _ _, h => by simp [isPd] at h
  | .ref _, h => by simp [isPd] at h
  | .ty _, _ => rfl
  | .cl _, _ => rfl
  | .adr _, _ => rfl
  | .scr _, _ => rfl
theorem pds_cl {N : Nat} : ∀ {ds : List A.D}, isPds ds = true → cls N ds = true
  | [], _ => rfl
  | d :: ds, h => by
    have h' : isPd d = true ∧ isPds ds = true := by simpa [isPds] using h
    simp [cls, pd_cl h'.1, pds_cl h'.2]
end
theorem at_in {xs : List A.D} {i : Int} (h0 : 0 ≤ i) (h1 : i < xs.length) : ∃ x ∈ xs, atI xs i = some x := by
  obtain ⟨n, rfl⟩ := Int.eq_ofNat_of_zero_le h0
  have hn : n < xs.length := by omega
  exact ⟨xs[n], List.getElem_mem hn, atD (List.getElem?_eq_getElem hn)⟩

/-! ### the operators of sets -/
abbrev s_gcd : Stmt := (topS 14)
theorem sc_gcd : FnScope ["one", "other"] ["one", "other"] (defScope s_gcd) := ⟨rfl, rfl, rfl, by decide +kernel, rfl, by decide +kernel, by decide +kernel⟩
abbrev s_ofFlags : Stmt := (topS 15)
theorem sc_ofFlags : FnScope ["flags", "start", "period", "early", "rests", "number", "rest"] ["flags", "start"] (defScope s_ofFlags) := ⟨rfl, rfl, rfl, by decide +kernel, rfl, by decide +kernel, by decide +kernel⟩
abbrev s_frame : Stmt := (topS 16)
theorem sc_frame : FnScope ["one", "other", "period"] ["one", "other"] (defScope s_frame) := ⟨rfl, rfl, rfl, by decide +kernel, rfl, by decide +kernel, by decide +kernel⟩
abbrev s_joined : Stmt := (topS 17)
theorem sc_joined : FnScope ["one", "other", "word", "ones", "others", "start", "period", "flags", "a", "b"] ["one", "other", "word"] (defScope s_joined) := ⟨rfl, rfl, rfl, by decide +kernel, rfl, by decide +kernel, by decide +kernel⟩
abbrev s_isshift : Stmt := (topS 18)
theorem sc_isshift : FnScope ["thing"] ["thing"] (defScope s_isshift) := ⟨rfl, rfl, rfl, by decide +kernel, rfl, by decide +kernel, by decide +kernel⟩
abbrev s_sle : Stmt := (inClass (topS 19) 13)
theorem sc_sle : FnScope ["self", "other"] ["self", "other"] (defScope s_sle) := ⟨rfl, rfl, rfl, by decide +kernel, rfl, by decide +kernel, by decide +kernel⟩
abbrev s_sbool : Stmt := (inClass (topS 19) 14)
theorem sc_sbool : FnScope ["self"] ["self"] (defScope s_sbool) := ⟨rfl, rfl, rfl, by decide +kernel, rfl, by decide +kernel, by decide +kernel⟩
abbrev s_sor : Stmt := (inClass (topS 19) 15)
theorem sc_sor : FnScope ["self", "other"] ["self", "other"] (defScope s_sor) := ⟨rfl, rfl, rfl, by decide +kernel, rfl, by decide +kernel, by decide +kernel⟩
abbrev s_sand : Stmt := (inClass (topS 19) 16)
theorem sc_sand : FnScope ["self", "other"] ["self", "other"] (defScope s_sand) := ⟨rfl, rfl, rfl, by decide +kernel, rfl, by decide +kernel, by decide +kernel⟩
abbrev s_sinv : Stmt := (inClass (topS 19) 17)
theorem sc_sinv : FnScope ["self", "flags", "flag"] ["self"] (defScope s_sinv) := ⟨rfl, rfl, rfl, by decide +kernel, rfl, by decide +kernel, by decide +kernel⟩
abbrev s_ssub : Stmt := (inClass (topS 19) 18)
theorem sc_ssub : FnScope ["self", "other", "start", "flags", "number"] ["self", "other"] (defScope s_ssub) := ⟨rfl, rfl, rfl, by decide +kernel, rfl, by decide +kernel, by decide +kernel⟩
abbrev s_sadd : Stmt := (inClass (topS 19) 19)
theorem sc_sadd : FnScope ["self", "other", "flags"] ["self", "other"] (defScope s_sadd) := ⟨rfl, rfl, rfl, by decide +kernel, rfl, by decide +kernel, by decide +kernel⟩
abbrev s_sradd : Stmt := (inClass (topS 19) 20)
theorem sc_sradd : FnScope ["self", "other", "flags"] ["self", "other"] (defScope s_sradd) := ⟨rfl, rfl, rfl, by decide +kernel, rfl, by decide +kernel, by decide +kernel⟩
def lcmP (a b : Nat) : Nat := a / Nat.gcd a b * b
theorem lcm_pos {a b : Nat} (ha : 0 < a) (hb : 0 < b) : 0 < lcmP a b := Nat.mul_pos (Nat.div_pos (Nat.gcd_le_left _ ha) (Nat.gcd_pos_of_pos_left _ ha)) hb
theorem lcm_r {a b : Nat} : lcmP a b % b = 0 := by unfold lcmP; exact Nat.mul_mod_left _ _
theorem lcm_l {a b : Nat} : lcmP a b % a = 0 := by
  unfold lcmP
  obtain ⟨k, hk⟩ := Nat.gcd_dvd_right a b
  obtain ⟨j, hj⟩ := Nat.gcd_dvd_left a b
  rcases Nat.eq_zero_or_pos (Nat.gcd a b) with z | z
  · have : a = 0 := Nat.eq_zero_of_gcd_eq_zero_left z
    subst this
    simp
  · have e : a / Nat.gcd a b = j := Nat.div_eq_of_eq_mul_right z hj
    rw [e]
    have : j * b = a * k := by
      rw [Nat.mul_comm j b]
      conv => lhs; rw [hk]
      conv => rhs; rw [hj]
      rw [Nat.mul_right_comm, Nat.mul_assoc (Nat.gcd a b) j k, Nat.mul_comm j k]
    rw [this]
    exact Nat.mul_mod_right _ _
def jop (w : Str) (a b : Bool) : Bool := if w = "or" then a || b else if w = "and" then a && b else a && !b
def exLim (x : Str) : Exc := ⟨"TooLarge", ["limit"], [.str x]⟩
def exPl (x : Str) : Exc := ⟨"NoSet", ["place"], [.str x]⟩
def spGcd : ASp := fun ds S Q _ => opt (two2 ds) fun q => ∃ a b : Nat, q = (.int a, .int b) ∧ Q (.int (Nat.gcd a b)) S
def spOfFlags : ASp := fun ds S Q _ => opt (two2 ds) fun q => ∃ (g : Nat → Bool) (a p : Nat), q = (.lst (flL g (a + p)), .int a) ∧ 0 < p ∧ p ≤ 5000 ∧ a ≤ 5000 ∧ Per g a p ∧ ∀ o : LS, o.f = g → Q (lsD o) S
def spFrame : ASp := fun ds S Q E => opt (two2 ds) fun q => ∃ o o2 : LS, q = (lsD o, lsD o2) ∧ (5000 < lcmP o.size o2.size → E (exLim "period") S) ∧ (lcmP o.size o2.size ≤ 5000 → Q (.tup [.int (max o.first o2.first : Nat), .int (lcmP o.size o2.size : Nat)]) S)
def spJoined : ASp := fun ds S Q E => opt (three3 ds) fun q => ∃ (o o2 : LS) (w : Str), q = (lsD o, lsD o2, .str w) ∧ (5000 < lcmP o.size o2.size → E (exLim "period") S) ∧ (lcmP o.size o2.size ≤ 5000 → ∀ r : LS, r.f = (fun n => jop w (o.f n) (o2.f n)) → Q (lsD r) S)
def spShift : ASp := fun ds S Q E => opt (one1 ds) fun d => ∃ i : Int, d = .int i ∧ (i < 0 → E (exPl "shift") S) ∧ (0 ≤ i → Q (.bl true) S)
def spBin (w : Str) : ASp := fun ds S Q E => opt (two2 ds) fun q => ∃ o o2 : LS, q = (lsD o, lsD o2) ∧ (5000 < lcmP o.size o2.size → E (exLim "period") S) ∧ (lcmP o.size o2.size ≤ 5000 → ∀ r : LS, r.f = (fun n => jop w (o.f n) (o2.f n)) → Q (lsD r) S)
def spLeL : ASp := fun ds S Q E => opt (two2 ds) fun q => ∃ o o2 : LS, q = (lsD o, lsD o2) ∧ lcmP o.size o2.size ≤ 5000 ∧ ∀ b : Bool, (b = true ↔ ∀ n, o.f n = true → o2.f n = true) → Q (.bl b) S
def spBoolL : ASp := fun ds S Q E => opt (one1 ds) fun d => ∃ o : LS, d = lsD o ∧ ∀ b : Bool, (b = true ↔ ∃ n, o.f n = true) → Q (.bl b) S
def spInvL : ASp := fun ds S Q E => opt (one1 ds) fun d => ∃ o : LS, d = lsD o ∧ ∀ r : LS, r.f = (fun n => !o.f n) → Q (lsD r) S
def spSubL : ASp := fun ds S Q E => spBin "without" ds S Q E ∨ opt (two2 ds) fun q => ∃ (o : LS) (i : Int), q = (lsD o, .int i) ∧ (i < 0 → E (exPl "shift") S) ∧ (0 ≤ i → ∀ r : LS, r.f = (fun n => o.f (n + i.toNat)) → Q (lsD r) S)
def spAddL : ASp := fun ds S Q E => opt (two2 ds) fun q => ∃ (o : LS) (i : Int), q = (lsD o, .int i) ∧ (i < 0 → E (exPl "shift") S) ∧ (0 ≤ i → 5000 < (o.first : Int) + i → E (exLim "start") S) ∧
  (0 ≤ i → (o.first : Int) + i ≤ 5000 → ∀ r : LS, r.f = (fun n => if n < i.toNat then false else o.f (n - i.toNat)) → Q (lsD r) S)
/-- the flags of a set, as far as one wants -/
theorem flags_by {o : LS} {n : Nat} {S : Sto} {Q : QD} {E : XQ} (hn : n ≤ 20000) (q : Q (.lst (flL o.f n)) S) :
    spFlags [.tup (intD (intsN (memL o.f o.first))), .int o.first, .int o.size, .tup (intD (intsN (tailL o.f o.first o.size))), .int n] S Q E := by
  have b1 := o.b1
  have b2 := o.b2
  refine ⟨_, _, intsN (memL o.f o.first), intsN (tailL o.f o.first o.size), o.first, o.size, n, rfl, rfl, rfl, by omega, o.size_pos, by omega, hn, bnd_range, bnd_range, ?_⟩
  rw [hasN_fun o.ok.per o.size_pos]
  exact q
section
variable {P : Program} {w : World} {K : PySem.W.Frag} {cA : Str → Addr} {mg : Str → Option Value} {base : Heap} {f : Addr} {fd : FuncData}
theorem d_gcd (D : Dfn K mg "divisor_of" s_gcd ["one", "other"] f fd) (T : Bn mg) : Fnc P w K mg base 1 "divisor_of" (upSp ⟨K, cA⟩ spGcd) := by
  refine D.fnc (def_ok (k := 0) D.F sc_gcd (fun cdv A outer s H E hr => (js_cons (js_while (passes_of rfl) (jt_cmp op_gt os_gt (jv 1) j_int (nomark _))
      (js_one (js_parU (i := 0) (j := 1) (.inl rfl) sc_gcd.nd rfl rfl (by decide) rfl rfl (ja_cons (jv 1) (ja_cons (j_op op_mod os_mod (jv 0) (jv 1)) ja_nil)) (by rfl))))
    (js_one (js_ret (jv 0))))) ?_ ?_)
  · intro ds S Q E h
    obtain ⟨a, b, rfl, _⟩ := opt_two h
    rfl
  · intro ds S Q E h
    obtain ⟨x1, x2, rfl, a, b, eq, q⟩ := opt_two h
    clear h
    cases eq
    simp_arith
    refine ⟨fun m ρ S' => ∃ a' b' : Nat, m = b' ∧ ρ = [some (.int a'), some (.int b')] ∧ S' = S ∧ Nat.gcd a' b' = Nat.gcd a b, ⟨b, a, b, rfl, rfl, rfl, rfl⟩, ?_⟩
    rintro m ρ S' ⟨a', b', rfl, rfl, rfl, hg⟩
    simp_arith
    by_cases c : 0 < m
    · rw [if_pos (show (0 : Int) < (m : Int) by omega)]
      rw [← Int.natCast_emod]
      refine ⟨by omega, a' % m, Nat.mod_lt _ c, m, a' % m, rfl, rfl, ?_⟩
      rw [← hg, Nat.gcd_comm a' m, Nat.gcd_rec m a', Nat.gcd_comm]
    · rw [if_neg (show ¬ (0 : Int) < (m : Int) by omega)]
      have : m = 0 := by omega
      subst this
      rw [Nat.gcd_zero_right] at hg
      rw [hg]
      exact q
theorem d_ofFlags (D : Dfn K mg "set_of_flags" s_ofFlags ["flags", "start"] f fd) (T : Bn mg) (mLS : MkF P w K mg base ⟨K, cA⟩ 4 "LengthSet" "LengthSet" spMk) : Fnc P w K mg base 6 "set_of_flags" (upSp ⟨K, cA⟩ spOfFlags) := by
  refine D.fnc (def_ok (k := 5) D.F sc_ofFlags (fun cdv A outer s H E hr => (js_cons (js_set (i := 2) sc_ofFlags.nd rfl (Or.inr rfl) (j_op op_sub os_sub (j_callB (kcall_len_seq K) cs_len (by rfl) T.len (by decide +kernel) (ja_cons (jv 0) ja_nil)) (jv 1)))
    (js_cons (js_setLc (i := 3) (own := [("number", 5)]) (tt := _) (by rfl) sc_ofFlags.nd rfl rfl (sw_true rfl rfl rfl (by decide +kernel)) (gl_name (i := 5) (by decide)) (ji_range1 rfl T.range (ja_cons (jv 1) ja_nil)) (blkOk_by (own := [("number", 5)]) (N := ["flags", "start", "period", "early", "rests", "number", "rest"]) (sc := defScope s_ofFlags) (by decide +kernel)) (fun _ _ _ _ _ => (pg_name (i := 5) sc_ofFlags.nd rfl (Or.inl rfl))) (fun _ _ _ _ _ => (jts_one (jt_val (j_ix (kix_lt K) os_ix (jv 0) (jv 5) (fun _ _ => rfl))))) (fun _ _ _ _ _ => (jv 5)))
    (js_cons (js_setLc (i := 4) (own := [("rest", 6)]) (tt := _) (by rfl) sc_ofFlags.nd rfl rfl (sw_true rfl rfl rfl (by decide +kernel)) (gl_name (i := 6) (by decide)) (ji_range1 rfl T.range (ja_cons (jv 2) ja_nil)) (blkOk_by (own := [("rest", 6)]) (N := ["flags", "start", "period", "early", "rests", "number", "rest"]) (sc := defScope s_ofFlags) (by decide +kernel)) (fun _ _ _ _ _ => (pg_name (i := 6) sc_ofFlags.nd rfl (Or.inl rfl))) (fun _ _ _ _ _ => (jts_one (jt_val (j_ix (kix_lt K) os_ix (jv 0) (j_op (op_addA K) os_add (jv 1) (j_op op_mod os_mod (j_op op_sub os_sub (jv 6) (jv 1)) (jv 2))) (fun _ _ => rfl))))) (fun _ _ _ _ _ => (jv 6)))
    (js_one (js_ret (j_nwF (C := "LengthSet") mLS hr (by omega) rfl (L2N.passAt (L2N.takes_of rfl rfl rfl rfl)) (ja_cons (jv 3) (ja_cons (jv 1) (ja_cons (jv 2) (ja_cons (jv 4) ja_nil))))))))))) ?_ ?_)
  · intro ds S Q E h
    obtain ⟨a, b, rfl, _⟩ := opt_two h
    rfl
  · intro ds S Q E h
    obtain ⟨x1, x2, rfl, g, a, p, eq, p0, p1, a1, hper, q⟩ := opt_two h
    clear h
    cases eq
    refine seq_by fun N1 hN1 => ?_
    have e1 : ((flL g (a + p)).length : Int) - (a : Int) = (p : Int) := by rw [flL_len]; omega
    simp_arith [e1]
    refine hN1 _ _ ?_
    clear hN1
    refine seq_by fun N1 hN1 => ?_
    simp_arith
    refine ⟨⟨by omega, by omega⟩, ?_⟩
    rw [Int.toNat_natCast]
    refine lc_rng g (fun i => .int (i : Int)) (by omega) (fun i hi Y F hY hF => ?_) ?_
    · simp_arith [flL_at (f := g) (show i < a + p by omega)]
      by_cases c1 : g i = true
      · rw [if_pos c1]
        exact hY c1
      · rw [if_neg c1]
        exact hF (by simpa using c1)
    refine hN1 _ _ ?_
    clear hN1
    refine seq_by fun N1 hN1 => ?_
    simp_arith
    refine ⟨⟨by omega, by omega⟩, ?_⟩
    rw [Int.toNat_natCast]
    refine lc_rng (fun i => g (spot a p i)) (fun i => .int (i : Int)) (by omega) (fun i hi Y F hY hF => ?_) ?_
    · have sl := spot_lt (first := a) p0 i
      simp_arith [← spotI (first := a) (r := i) p0, flL_at (f := g) (show spot a p i < a + p by omega)]
      refine ⟨by omega, ?_⟩
      by_cases c1 : g (spot a p i) = true
      · rw [if_pos c1]
        exact hY c1
      · rw [if_neg c1]
        exact hF (by simpa using c1)
    refine hN1 _ _ ?_
    clear hN1
    simp_arith
    rw [int_nats, int_nats]
    have hw : wrongSet (.lst (fltD g a)) (.int a) (.int p) (.lst (fltD (fun i => g (spot a p i)) p)) = none := right_flt a1 p0 p1
    refine mk_by (by simp only [Bool.and_eq_true]; exact ⟨pd_flt, rfl, rfl, pd_flt⟩) hw fun o ho => q o ?_
    have e2 : setF (.lst (fltD g a)) (.int a) (.int p) (.lst (fltD (fun i => g (spot a p i)) p)) = fdF a p g (fun i => g (spot a p i)) := setF_flt
    exact ho.trans (e2.trans (hasN_fun hper p0))
theorem d_frame (D : Dfn K mg "common_frame" s_frame ["one", "other"] f fd) (T : Bn mg) (L : LSc K cA mg) {tk : Tok} (gMost : mg "MOST" = some (.int 5000 tk)) (xTooLarge : XCls P K mg "TooLarge" (cA "TooLarge") "limit") (cG : Fnc P w K mg base 1 "divisor_of" (upSp ⟨K, cA⟩ spGcd)) : Fnc P w K mg base 2 "common_frame" (upSp ⟨K, cA⟩ spFrame) := by
  refine D.fnc (def_ok (k := 1) D.F sc_frame (fun cdv A outer s H E hr => (js_cons (js_set (i := 2) sc_frame.nd rfl (Or.inl rfl) (j_op (op_mulB K) os_mul (j_op op_fdiv os_fdiv (j_fld (C := "LengthSet") L.size (jv 0) rfl) (j_fc cG hr (by omega) rfl (L2N.passAt (L2N.takes_of rfl rfl rfl rfl)) (ja_cons (j_fld (C := "LengthSet") L.size (jv 0) rfl) (ja_cons (j_fld (C := "LengthSet") L.size (jv 1) rfl) ja_nil)))) (j_fld (C := "LengthSet") L.size (jv 1) rfl)))
    (js_cons (js_if (jt_cmp op_gt os_gt (jv 2) (j_gint (by rfl) gMost) (nomark _))
      (js_one (js_raise (C := "TooLarge") rfl xTooLarge hr (L2N.takes_of rfl rfl rfl rfl) (ja_cons j_str ja_nil)))
      js_nil)
    (js_one (js_ret (j_tup (ja_cons (j_callB (call_max2 rfl) cs_max2 (by rfl) T.max (by decide +kernel) (ja_cons (j_callTy call_int1 cs_int (by rfl) T.int (by decide +kernel) (ja_cons (j_fld (C := "LengthSet") L.first (jv 0) rfl) ja_nil)) (ja_cons (j_callTy call_int1 cs_int (by rfl) T.int (by decide +kernel) (ja_cons (j_fld (C := "LengthSet") L.first (jv 1) rfl) ja_nil)) ja_nil))) (ja_cons (jv 2) ja_nil)))))))) ?_ ?_)
  · intro ds S Q E h
    obtain ⟨a, b, rfl, _⟩ := opt_two h
    rfl
  · intro ds S Q E h
    obtain ⟨x1, x2, rfl, o, o2, eq, qe, q⟩ := opt_two h
    clear h
    cases eq
    have s1 := o.size_pos
    have s2 := o2.size_pos
    have b1 := o.b2
    have b2 := o2.b2
    have g0 : 0 < Nat.gcd o.size o2.size := Nat.gcd_pos_of_pos_left _ s1
    have g1 : Nat.gcd o.size o2.size ≤ o.size := Nat.gcd_le_left _ s1
    have e1 : (o.size : Int) / (Nat.gcd o.size o2.size : Nat) * (o2.size : Int) = ((lcmP o.size o2.size : Nat) : Int) := by
      unfold lcmP
      rw [Int.natCast_mul, Int.natCast_ediv]
    have e2 : (if (o.first : Int) < (o2.first : Int) then (o2.first : Int) else (o.first : Int)) = ((max o.first o2.first : Nat) : Int) := by
      split <;> omega
    simp_arith [ins_ls, f_first, f_size, spGcd]
    refine ⟨_, _, rfl, ⟨by omega, by omega⟩, ?_⟩
    have mu : mulOk ((o.size : Int) / (Nat.gcd o.size o2.size : Nat)) (o2.size : Int) := mulS ⟨by omega, by omega⟩
    refine ⟨mu, ?_⟩
    rw [e1]
    by_cases c : 5000 < lcmP o.size o2.size
    · rw [if_pos (show (5000 : Int) < ((lcmP o.size o2.size : Nat) : Int) by omega)]
      exact qe c
    · rw [if_neg (show ¬ (5000 : Int) < ((lcmP o.size o2.size : Nat) : Int) by omega)]
      have := q (by omega)
      rw [← e2] at this
      exact this
theorem zip_flL {f g : Nat → Bool} {n : Nat} : zipD (flL f n) (flL g n) = (List.range n).map fun i => A.D.tup [.bl (f i), .bl (g i)] := by
  unfold zipD
  rw [flL_len, flL_len, Nat.min_self]
  refine List.map_congr_left fun i hi => ?_
  have hi := List.mem_range.mp hi
  simp [flL, hi]
/-- [.. for a, b in zip(xs, ys)] over two rows of truths -/
def zf (h : Bool → Bool → Bool) : A.D → A.D
  | .tup [.bl a, .bl b] => .bl (h a b)
  | _ => .non
theorem lc_zip {g : AG} {te : AM A.D} {ρ : Ev} {Q : List A.D → Sto → Prop} {S : Sto} {f1 f2 : Nat → Bool} (h : Bool → Bool → Bool) {n : Nat} (hn : n ≤ 1000000)
    (hs : ∀ (x y : Bool) (Y : A.D → Sto → Prop) (F : Sto → Prop), Y (.bl (h x y)) S → g (.tup [.bl x, .bl y]) ρ fun ρ2 => aYes ρ2 S (fun b S3 => if b = true then te ρ2 S3 Y (fun _ _ => False) else F S3) fun _ _ => False)
    (q : Q (flL (fun i => h (f1 i) (f2 i)) n) S) : lcX g aYes te ρ Q (zipD (flL f1 n) (flL f2 n)) [] S := by
  rw [zip_flL]
  refine lcX_map (fun _ => true) (zf h) (by simpa using hn) (fun x hx Y F hY _ => ?_) ?_
  · obtain ⟨i, _, rfl⟩ := List.mem_map.mp hx
    exact hs _ _ Y F (hY rfl)
  · rw [filter_all, List.map_map]
    exact q
theorem d_joined (D : Dfn K mg "joined" s_joined ["one", "other", "word"] f fd) (T : Bn mg) (L : LSc K cA mg) (cFr : Fnc P w K mg base 2 "common_frame" (upSp ⟨K, cA⟩ spFrame)) (cF : Fnc P w K mg base 1 "flags_of" (upSp ⟨K, cA⟩ spFlags)) (cOf : Fnc P w K mg base 6 "set_of_flags" (upSp ⟨K, cA⟩ spOfFlags)) : Fnc P w K mg base 7 "joined" (upSp ⟨K, cA⟩ spJoined) := by
  refine D.fnc (def_ok (k := 6) D.F sc_joined (fun cdv A outer s H E hr => (js_cons (js_un (vs := [0, 1, 2, 3, 4, 5, 6, 7, 8, 9]) (gl_tup (m := 2) (gls_cons (gl_name (i := 5) (by decide)) (gls_cons (gl_name (i := 6) (by decide)) gls_nil))) (j_fc cFr hr (by omega) rfl (L2N.passAt (L2N.takes_of rfl rfl rfl rfl)) (ja_cons (jv 0) (ja_cons (jv 1) ja_nil))) (kpg_tup K (n := 2) rfl (pgs_cons (pg_name (i := 5) sc_joined.nd rfl (Or.inl rfl)) (pgs_cons (pg_name (i := 6) sc_joined.nd rfl (Or.inl rfl)) pgs_nil))))
    (js_cons (js_set (i := 3) sc_joined.nd rfl (Or.inl rfl) (j_fc cF hr (by omega) rfl (L2N.passAt (L2N.takes_of rfl rfl rfl rfl)) (ja_cons (j_fld (C := "LengthSet") L.members (jv 0) rfl) (ja_cons (j_fld (C := "LengthSet") L.first (jv 0) rfl) (ja_cons (j_fld (C := "LengthSet") L.size (jv 0) rfl) (ja_cons (j_fld (C := "LengthSet") L.tail (jv 0) rfl) (ja_cons (j_op (op_addA K) os_add (jv 5) (jv 6)) ja_nil)))))))
    (js_cons (js_set (i := 4) sc_joined.nd rfl (Or.inl rfl) (j_fc cF hr (by omega) rfl (L2N.passAt (L2N.takes_of rfl rfl rfl rfl)) (ja_cons (j_fld (C := "LengthSet") L.members (jv 1) rfl) (ja_cons (j_fld (C := "LengthSet") L.first (jv 1) rfl) (ja_cons (j_fld (C := "LengthSet") L.size (jv 1) rfl) (ja_cons (j_fld (C := "LengthSet") L.tail (jv 1) rfl) (ja_cons (j_op (op_addA K) os_add (jv 5) (jv 6)) ja_nil)))))))
    (js_cons (js_if (jt_cmp (op_eqA K hr.units) os_eq (jv 2) j_str (nomark _))
      (js_one (js_setLc (i := 7) (own := [("a", 8), ("b", 9)]) (tt := aYes) (by rfl) sc_joined.nd rfl rfl (sw_true rfl rfl rfl (by decide +kernel)) (gl_tup (m := 2) (gls_cons (gl_name (i := 8) (by decide)) (gls_cons (gl_name (i := 9) (by decide)) gls_nil))) (ji_zip (by rfl) T.zip (ja_cons (jv 3) (ja_cons (jv 4) ja_nil))) (blkOk_by (own := [("a", 8), ("b", 9)]) (N := ["one", "other", "word", "ones", "others", "start", "period", "flags", "a", "b"]) (sc := defScope s_joined) (by decide +kernel)) (fun _ _ _ _ _ => (kpg_tup K (n := 2) rfl (pgs_cons (pg_name (i := 8) sc_joined.nd rfl (Or.inl rfl)) (pgs_cons (pg_name (i := 9) sc_joined.nd rfl (Or.inl rfl)) pgs_nil)))) (fun _ _ _ _ _ => jts_nil) (fun _ _ _ _ _ => (j_or (jv 8) (j_one (jv 9))))))
      (js_one (js_if (jt_cmp (op_eqA K hr.units) os_eq (jv 2) j_str (nomark _))
        (js_one (js_setLc (i := 7) (own := [("a", 8), ("b", 9)]) (tt := aYes) (by rfl) sc_joined.nd rfl rfl (sw_true rfl rfl rfl (by decide +kernel)) (gl_tup (m := 2) (gls_cons (gl_name (i := 8) (by decide)) (gls_cons (gl_name (i := 9) (by decide)) gls_nil))) (ji_zip (by rfl) T.zip (ja_cons (jv 3) (ja_cons (jv 4) ja_nil))) (blkOk_by (own := [("a", 8), ("b", 9)]) (N := ["one", "other", "word", "ones", "others", "start", "period", "flags", "a", "b"]) (sc := defScope s_joined) (by decide +kernel)) (fun _ _ _ _ _ => (kpg_tup K (n := 2) rfl (pgs_cons (pg_name (i := 8) sc_joined.nd rfl (Or.inl rfl)) (pgs_cons (pg_name (i := 9) sc_joined.nd rfl (Or.inl rfl)) pgs_nil)))) (fun _ _ _ _ _ => jts_nil) (fun _ _ _ _ _ => (j_and (jv 8) (j_one (jv 9))))))
        (js_one (js_setLc (i := 7) (own := [("a", 8), ("b", 9)]) (tt := aYes) (by rfl) sc_joined.nd rfl rfl (sw_true rfl rfl rfl (by decide +kernel)) (gl_tup (m := 2) (gls_cons (gl_name (i := 8) (by decide)) (gls_cons (gl_name (i := 9) (by decide)) gls_nil))) (ji_zip (by rfl) T.zip (ja_cons (jv 3) (ja_cons (jv 4) ja_nil))) (blkOk_by (own := [("a", 8), ("b", 9)]) (N := ["one", "other", "word", "ones", "others", "start", "period", "flags", "a", "b"]) (sc := defScope s_joined) (by decide +kernel)) (fun _ _ _ _ _ => (kpg_tup K (n := 2) rfl (pgs_cons (pg_name (i := 8) sc_joined.nd rfl (Or.inl rfl)) (pgs_cons (pg_name (i := 9) sc_joined.nd rfl (Or.inl rfl)) pgs_nil)))) (fun _ _ _ _ _ => jts_nil) (fun _ _ _ _ _ => (j_and (jv 8) (j_one (j_not (jv 9))))))))))
    (js_one (js_ret (j_fc cOf hr (by omega) rfl (L2N.passAt (L2N.takes_of rfl rfl rfl rfl)) (ja_cons (jv 7) (ja_cons (jv 5) ja_nil)))))))))) ?_ ?_)
  · intro ds S Q E h
    obtain ⟨a, b, c, rfl, _⟩ := opt_three h
    rfl
  · intro ds S Q E h
    obtain ⟨x1, x2, x3, rfl, o, o2, w, eq, qe, q⟩ := opt_three h
    clear h
    cases eq
    have b1 := o.b1
    have b2 := o2.b1
    refine seq_by fun N1 hN1 => ?_
    simp_arith [spFrame]
    refine ⟨o, o2, rfl, qe, fun hl => ?_⟩
    have qq := q hl
    clear q
    generalize hm : max o.first o2.first = a at *
    generalize hp : lcmP o.size o2.size = p at *
    have p0 : 0 < p := by rw [← hp]; exact lcm_pos o.size_pos o2.size_pos
    have ha : a ≤ 5000 := by omega
    have f1 : Per o.f a p := (o.ok.per.dvd (q := p) (by rw [← hp]; exact lcm_l)).up (by omega)
    have f2 : Per o2.f a p := (o2.ok.per.dvd (q := p) (by rw [← hp]; exact lcm_r)).up (by omega)
    have e1 : (a : Int) + (p : Int) = ((a + p : Nat) : Int) := by omega
    try simp_arith
    refine hN1 _ _ ?_
    clear hN1 qe
    refine seq_by fun N1 hN1 => ?_
    simp_arith [ins_ls, f_first, f_size, f_members, f_tail, e1]
    refine flags_by (by omega) (hN1 _ _ ?_)
    clear hN1
    refine seq_by fun N1 hN1 => ?_
    simp_arith [ins_ls, f_first, f_size, f_members, f_tail, e1]
    refine flags_by (by omega) (hN1 _ _ ?_)
    clear hN1
    refine seq_by fun N1 hN1 => ?_
    have fin : ∀ (h : Bool → Bool → Bool), (∀ x y, h x y = jop w x y) → N1 [some (lsD o), some (lsD o2), some (.str w), some (.lst (flL o.f (a + p))), some (.lst (flL o2.f (a + p))), some (.int (a : Int)), some (.int (p : Int)), some (.lst (flL (fun i => h (o.f i) (o2.f i)) (a + p))), none, none] S := fun h hh => hN1 _ _ (by
      simp_arith [spOfFlags]
      refine ⟨_, a, p, rfl, p0, by omega, by omega, Per.zip h f1 f2, fun r hr => qq r ?_⟩
      rw [hr]
      funext n
      exact hh _ _)
    clear hN1
    simp_arith [fvL]
    by_cases c1 : w = "or"
    · rw [if_pos c1]
      refine lc_zip (fun x y => x || y) (by omega) (fun x y Y F hY => ?_) (fin (fun x y => x || y) fun x y => by unfold jop; rw [if_pos c1])
      cases x <;> (simp_arith [aOrV]; exact hY)
    · rw [if_neg c1]
      by_cases c2 : w = "and"
      · rw [if_pos c2]
        refine lc_zip (fun x y => x && y) (by omega) (fun x y Y F hY => ?_) (fin (fun x y => x && y) fun x y => by unfold jop; rw [if_neg c1, if_pos c2])
        cases x <;> (simp_arith [aAndV]; exact hY)
      · rw [if_neg c2]
        refine lc_zip (fun x y => x && !y) (by omega) (fun x y Y F hY => ?_) (fin (fun x y => x && !y) fun x y => by unfold jop; rw [if_neg c1, if_neg c2])
        cases x <;> (simp_arith [aAndV, aNotV]; exact hY)
end


open Sm
/-! ### .. as methods -/
theorem jop_or {a b : Bool} : jop "or" a b = (a || b) := by simp [jop]
theorem jop_and {a b : Bool} : jop "and" a b = (a && b) := by simp [jop, ofString_inj]
theorem jop_no {a b : Bool} : jop "without" a b = (a && !b) := by simp [jop, ofString_inj]
theorem len_flt {p : Nat → Bool} {n : Nat} : (intD (intsN ((List.range n).filter p))).length = ((List.range n).filter p).length := by simp [intD, intsN]
/-- a set is empty just if nothing is kept -/
theorem some_of {o : LS} : ((memL o.f o.first).length + (tailL o.f o.first o.size).length ≠ 0) ↔ ∃ n, o.f n = true := by
  constructor
  · intro h
    rcases Nat.eq_zero_or_pos (memL o.f o.first).length with z | z
    · have : 0 < (tailL o.f o.first o.size).length := by omega
      obtain ⟨r, hr⟩ := List.exists_mem_of_length_pos this
      exact ⟨_, (List.mem_filter.mp hr).2⟩
    · obtain ⟨r, hr⟩ := List.exists_mem_of_length_pos z
      exact ⟨_, (List.mem_filter.mp hr).2⟩
  · rintro ⟨n, hn⟩ z
    have z1 : memL o.f o.first = [] := List.length_eq_zero_iff.mp (by omega)
    have z2 : tailL o.f o.first o.size = [] := List.length_eq_zero_iff.mp (by omega)
    have := hasN_back o.ok.per o.size_pos n
    rw [z1, z2, hn] at this
    unfold hasN at this
    split at this <;> simp [intsN] at this
section
variable {P : Program} {w : World} {K : PySem.W.Frag} {cA : Str → Addr} {mg : Str → Option Value} {base : Heap} {f : Addr} {fd : FuncData}
theorem d_isshift (D : Dfn K mg "is_shift" s_isshift ["thing"] f fd) (T : Bn mg) (xNoSet : XCls P K mg "NoSet" (cA "NoSet") "place") : Fnc P w K mg base 1 "is_shift" (upSp ⟨K, cA⟩ spShift) := by
  refine D.fnc (def_ok (k := 0) D.F sc_isshift (fun cdv A outer s H E hr => (js_cons (js_if (JW.jt (jw_or (jt_not (jt_val (j_callB (kcall_isi K) cs_isi (by rfl) T.isinstance (by decide +kernel) (ja_cons (jv 0) (ja_cons (j_gty (T := "int") (by rfl) T.int (by decide +kernel)) ja_nil))))) (jw_or1 (jt_val (j_callB (kcall_isi K) cs_isi (by rfl) T.isinstance (by decide +kernel) (ja_cons (jv 0) (ja_cons (j_gty (T := "bool") (by rfl) T.bool (by decide +kernel)) ja_nil)))))))
      (js_one (js_ret j_bl))
      js_nil)
    (js_cons (js_if (jt_cmp op_lt os_lt (jv 0) j_int (nomark _))
      (js_one (js_raise (C := "NoSet") rfl xNoSet hr (L2N.takes_of rfl rfl rfl rfl) (ja_cons j_str ja_nil)))
      js_nil)
    (js_one (js_ret j_bl))))) ?_ ?_)
  · intro ds S Q E h
    obtain ⟨a, rfl, _⟩ := opt_one h
    rfl
  · intro ds S Q E h
    obtain ⟨x1, rfl, i, rfl, qe, q⟩ := opt_one h
    clear h
    simp_arith [known_mem, String.reduceBEq]
    by_cases c : i < 0
    · rw [if_pos c]
      exact qe c
    · rw [if_neg c]
      exact q (by omega)
theorem d_sbool (D : MDf K "__bool__" "LengthSet.__bool__" s_sbool ["self"] f fd) (T : Bn mg) (L : LSc K cA mg)
    (hf : PySem.W.findIn K (.ref (cA "LengthSet")) "__bool__" = some (some (.ref f))) (hi : PySem.W.isFn K (.ref f) = true) : Own P w K mg base 1 (cA "LengthSet") "__bool__" (upSp ⟨K, cA⟩ spBoolL) := by
  refine ⟨f, hf, hi, fnR_of (def_ok (k := 0) D.F sc_sbool (fun cdv A outer s H E hr => (js_one (js_ret (j_callTy call_bool1 cs_bool (by rfl) T.bool (by decide +kernel) (ja_cons (j_op (op_addA K) os_add (j_callB (kcall_len_seq K) cs_len (by rfl) T.len (by decide +kernel) (ja_cons (j_fld (C := "LengthSet") L.members (jv 0) rfl) ja_nil)) (j_callB (kcall_len_seq K) cs_len (by rfl) T.len (by decide +kernel) (ja_cons (j_fld (C := "LengthSet") L.tail (jv 0) rfl) ja_nil))) ja_nil))))) ?_ ?_) D.b⟩
  · intro ds S Q E h
    obtain ⟨a, rfl, _⟩ := opt_one h
    rfl
  · intro ds S Q E h
    obtain ⟨x1, rfl, o, rfl, q⟩ := opt_one h
    simp_arith [ins_ls, f_members, f_tail]
    refine q _ ?_
    rw [← some_of]
    have e1 : (intD (intsN (memL o.f o.first))).length = (memL o.f o.first).length := by simp [intD, intsN]
    have e2 : (intD (intsN (tailL o.f o.first o.size))).length = (tailL o.f o.first o.size).length := by simp [intD, intsN]
    rw [e1, e2, bne_iff_ne]
    constructor <;> intro h <;> omega
theorem d_sor (D : MDf K "__or__" "LengthSet.__or__" s_sor ["self", "other"] f fd) (T : Bn mg) (L : LSc K cA mg) (iLS : C8.InsC K (cA "LengthSet")) (tiLS : ∀ T ∈ ["list", "tuple", "int", "NoneType", "str", "bool"], PySem.W.kitOne K (.type T) (.ref (cA "LengthSet")) = some false) (cJ : Fnc P w K mg base 7 "joined" (upSp ⟨K, cA⟩ spJoined))
    (hf : PySem.W.findIn K (.ref (cA "LengthSet")) "__or__" = some (some (.ref f))) (hi : PySem.W.isFn K (.ref f) = true) : Own P w K mg base 8 (cA "LengthSet") "__or__" (upSp ⟨K, cA⟩ (spBin "or")) := by
  refine ⟨f, hf, hi, fnR_of (def_ok (k := 7) D.F sc_sor (fun cdv A outer s H E hr => (js_cons (js_if (jt_not (jt_val (j_callB (call_isiC K iLS) (cs_isiC (Ts := ["list", "tuple", "int", "NoneType", "str", "bool"]) tiLS) (by rfl) T.isinstance (by decide +kernel) (ja_cons (jv 1) (ja_cons (j_gcls (by rfl) L.gl) ja_nil)))))
      (js_one js_never)
      js_nil)
    (js_one (js_ret (j_fc cJ hr (by omega) rfl (L2N.passAt (L2N.takes_of rfl rfl rfl rfl)) (ja_cons (jv 0) (ja_cons (jv 1) (ja_cons j_str ja_nil)))))))) ?_ ?_) D.b⟩
  · intro ds S Q E h
    obtain ⟨a, b, rfl, _⟩ := opt_two h
    rfl
  · intro ds S Q E h
    obtain ⟨x1, x2, rfl, o, o2, eq, qe, q⟩ := opt_two h
    clear h
    cases eq
    simp_arith [fIsiC, ins_ls, spJoined]
    exact ⟨o, o2, _, rfl, qe, q⟩
theorem d_sand (D : MDf K "__and__" "LengthSet.__and__" s_sand ["self", "other"] f fd) (T : Bn mg) (L : LSc K cA mg) (iLS : C8.InsC K (cA "LengthSet")) (tiLS : ∀ T ∈ ["list", "tuple", "int", "NoneType", "str", "bool"], PySem.W.kitOne K (.type T) (.ref (cA "LengthSet")) = some false) (cJ : Fnc P w K mg base 7 "joined" (upSp ⟨K, cA⟩ spJoined))
    (hf : PySem.W.findIn K (.ref (cA "LengthSet")) "__and__" = some (some (.ref f))) (hi : PySem.W.isFn K (.ref f) = true) : Own P w K mg base 8 (cA "LengthSet") "__and__" (upSp ⟨K, cA⟩ (spBin "and")) := by
  refine ⟨f, hf, hi, fnR_of (def_ok (k := 7) D.F sc_sand (fun cdv A outer s H E hr => (js_cons (js_if (jt_not (jt_val (j_callB (call_isiC K iLS) (cs_isiC (Ts := ["list", "tuple", "int", "NoneType", "str", "bool"]) tiLS) (by rfl) T.isinstance (by decide +kernel) (ja_cons (jv 1) (ja_cons (j_gcls (by rfl) L.gl) ja_nil)))))
      (js_one js_never)
      js_nil)
    (js_one (js_ret (j_fc cJ hr (by omega) rfl (L2N.passAt (L2N.takes_of rfl rfl rfl rfl)) (ja_cons (jv 0) (ja_cons (jv 1) (ja_cons j_str ja_nil)))))))) ?_ ?_) D.b⟩
  · intro ds S Q E h
    obtain ⟨a, b, rfl, _⟩ := opt_two h
    rfl
  · intro ds S Q E h
    obtain ⟨x1, x2, rfl, o, o2, eq, qe, q⟩ := opt_two h
    clear h
    cases eq
    simp_arith [fIsiC, ins_ls, spJoined]
    exact ⟨o, o2, _, rfl, qe, q⟩
theorem d_sle (D : MDf K "__le__" "LengthSet.__le__" s_sle ["self", "other"] f fd) (T : Bn mg) (L : LSc K cA mg) (iLS : C8.InsC K (cA "LengthSet")) (tiLS : ∀ T ∈ ["list", "tuple", "int", "NoneType", "str", "bool"], PySem.W.kitOne K (.type T) (.ref (cA "LengthSet")) = some false) (cJ : Fnc P w K mg base 7 "joined" (upSp ⟨K, cA⟩ spJoined))
    (hBool : Own P w K mg base 1 (cA "LengthSet") "__bool__" (upSp ⟨K, cA⟩ spBoolL)) (hf : PySem.W.findIn K (.ref (cA "LengthSet")) "__le__" = some (some (.ref f))) (hi : PySem.W.isFn K (.ref f) = true) : Own P w K mg base 8 (cA "LengthSet") "__le__" (upSp ⟨K, cA⟩ spLeL) := by
  refine ⟨f, hf, hi, fnR_of (def_ok (k := 7) D.F sc_sle (fun cdv A outer s H E hr => (js_cons (js_if (jt_not (jt_val (j_callB (call_isiC K iLS) (cs_isiC (Ts := ["list", "tuple", "int", "NoneType", "str", "bool"]) tiLS) (by rfl) T.isinstance (by decide +kernel) (ja_cons (jv 1) (ja_cons (j_gcls (by rfl) L.gl) ja_nil)))))
      (js_one js_never)
      js_nil)
    (js_one (js_ret (j_not (j_callTy (call_boolO hBool hr (by omega)) cs_boolO (by rfl) T.bool (by decide +kernel) (ja_cons (j_fc cJ hr (by omega) rfl (L2N.passAt (L2N.takes_of rfl rfl rfl rfl)) (ja_cons (jv 0) (ja_cons (jv 1) (ja_cons j_str ja_nil)))) ja_nil))))))) ?_ ?_) D.b⟩
  · intro ds S Q E h
    obtain ⟨a, b, rfl, _⟩ := opt_two h
    rfl
  · intro ds S Q E h
    obtain ⟨x1, x2, rfl, o, o2, eq, hl, q⟩ := opt_two h
    clear h
    cases eq
    simp_arith [fIsiC, ins_ls, spJoined]
    refine ⟨o, o2, _, rfl, fun z => by omega, fun _ r hr => ?_⟩
    simp_arith [fBoolO, ins_ls, spBoolL]
    refine ⟨r, rfl, fun b hb => ?_⟩
    try simp_arith
    refine q _ ?_
    rw [hr] at hb
    simp only [jop_no, Bool.and_eq_true, Bool.not_eq_true'] at hb
    cases b with
    | true =>
      obtain ⟨n, h1, h2⟩ := hb.mp rfl
      exact ⟨fun z => (by cases z), fun z => by have := z n h1; rw [h2] at this; cases this⟩
    | false =>
      refine ⟨fun _ n h1 => ?_, fun _ => rfl⟩
      cases h2 : o2.f n with
      | true => rfl
      | false => exact absurd (hb.mpr ⟨n, h1, h2⟩) (by decide)
theorem d_sinv (D : MDf K "__invert__" "LengthSet.__invert__" s_sinv ["self"] f fd) (T : Bn mg) (L : LSc K cA mg) (cF : Fnc P w K mg base 1 "flags_of" (upSp ⟨K, cA⟩ spFlags)) (cOf : Fnc P w K mg base 6 "set_of_flags" (upSp ⟨K, cA⟩ spOfFlags))
    (hf : PySem.W.findIn K (.ref (cA "LengthSet")) "__invert__" = some (some (.ref f))) (hi : PySem.W.isFn K (.ref f) = true) : Own P w K mg base 7 (cA "LengthSet") "__invert__" (upSp ⟨K, cA⟩ spInvL) := by
  refine ⟨f, hf, hi, fnR_of (def_ok (k := 6) D.F sc_sinv (fun cdv A outer s H E hr => (js_cons (js_set (i := 1) sc_sinv.nd rfl (Or.inl rfl) (j_fc cF hr (by omega) rfl (L2N.passAt (L2N.takes_of rfl rfl rfl rfl)) (ja_cons (j_fld (C := "LengthSet") L.members (jv 0) rfl) (ja_cons (j_fld (C := "LengthSet") L.first (jv 0) rfl) (ja_cons (j_fld (C := "LengthSet") L.size (jv 0) rfl) (ja_cons (j_fld (C := "LengthSet") L.tail (jv 0) rfl) (ja_cons (j_op (op_addA K) os_add (j_fld (C := "LengthSet") L.first (jv 0) rfl) (j_fld (C := "LengthSet") L.size (jv 0) rfl)) ja_nil)))))))
    (js_one (js_ret (j_fc cOf hr (by omega) rfl (L2N.passAt (L2N.takes_of rfl rfl rfl rfl)) (ja_cons (j_lc (own := [("flag", 2)]) (tt := aYes) (by rfl) sc_sinv.nd (gl_name (i := 2) (by decide)) (ji_seq (jv 1)) (blkOk_by (own := [("flag", 2)]) (N := ["self", "flags", "flag"]) (sc := defScope s_sinv) (by decide +kernel)) (fun _ _ _ _ _ => (pg_name (i := 2) sc_sinv.nd rfl (Or.inl rfl))) (fun _ _ _ _ _ => jts_nil) (fun _ _ _ _ _ => (j_not (jv 2)))) (ja_cons (j_fld (C := "LengthSet") L.first (jv 0) rfl) ja_nil))))))) ?_ ?_) D.b⟩
  · intro ds S Q E h
    obtain ⟨a, rfl, _⟩ := opt_one h
    rfl
  · intro ds S Q E h
    obtain ⟨x1, rfl, o, rfl, q⟩ := opt_one h
    clear h
    have b1 := o.b1
    have b2 := o.b2
    have e1 : (o.first : Int) + (o.size : Int) = ((o.first + o.size : Nat) : Int) := by omega
    refine seq_by fun N1 hN1 => ?_
    simp_arith [ins_ls, f_first, f_size, f_members, f_tail, e1]
    refine flags_by (by omega) (hN1 _ _ ?_)
    clear hN1
    simp_arith [ins_ls, f_first, spOfFlags]
    refine lcX_map (fun _ => true) (fun d => match d with | .bl b => .bl (!b) | _ => .non) (by rw [flL_len]; omega) (fun x hx Y F hY _ => ?_) ?_
    · obtain ⟨i, _, rfl⟩ := List.mem_map.mp hx
      try simp_arith
      exact hY rfl
    · rw [filter_all]
      have e2 : (flL o.f (o.first + o.size)).map (fun d => match d with | .bl b => A.D.bl (!b) | _ => .non) = flL (fun n => !o.f n) (o.first + o.size) := by
        unfold flL
        rw [List.map_map]
        rfl
      rw [e2]
      exact ⟨_, o.first, o.size, rfl, o.size_pos, b2, b1, o.ok.per.not, q⟩
theorem d_ssub (D : MDf K "__sub__" "LengthSet.__sub__" s_ssub ["self", "other"] f fd) (T : Bn mg) (L : LSc K cA mg) (iLS : C8.InsC K (cA "LengthSet")) (tiLS : ∀ T ∈ ["list", "tuple", "int", "NoneType", "str", "bool"], PySem.W.kitOne K (.type T) (.ref (cA "LengthSet")) = some false) (cJ : Fnc P w K mg base 7 "joined" (upSp ⟨K, cA⟩ spJoined))
    (cSh : Fnc P w K mg base 1 "is_shift" (upSp ⟨K, cA⟩ spShift)) (hHas : Own P w K mg base 2 (cA "LengthSet") "__contains__" (upSp ⟨K, cA⟩ spHas)) (cOf : Fnc P w K mg base 6 "set_of_flags" (upSp ⟨K, cA⟩ spOfFlags))
    (hf : PySem.W.findIn K (.ref (cA "LengthSet")) "__sub__" = some (some (.ref f))) (hi : PySem.W.isFn K (.ref f) = true) : Own P w K mg base 8 (cA "LengthSet") "__sub__" (upSp ⟨K, cA⟩ spSubL) := by
  refine ⟨f, hf, hi, fnR_of (def_ok (k := 7) D.F sc_ssub (fun cdv A outer s H E hr => (js_cons (js_if (jt_val (j_callB (call_isiC K iLS) (cs_isiC (Ts := ["list", "tuple", "int", "NoneType", "str", "bool"]) tiLS) (by rfl) T.isinstance (by decide +kernel) (ja_cons (jv 1) (ja_cons (j_gcls (by rfl) L.gl) ja_nil))))
      (js_one (js_ret (j_fc cJ hr (by omega) rfl (L2N.passAt (L2N.takes_of rfl rfl rfl rfl)) (ja_cons (jv 0) (ja_cons (jv 1) (ja_cons j_str ja_nil))))))
      js_nil)
    (js_cons (js_if (jt_not (jt_val (j_fc cSh hr (by omega) rfl (L2N.passAt (L2N.takes_of rfl rfl rfl rfl)) (ja_cons (jv 1) ja_nil))))
      (js_one js_never)
      js_nil)
    (js_cons (js_set (i := 2) sc_ssub.nd rfl (Or.inl rfl) (j_callB (call_max2 rfl) cs_max2 (by rfl) T.max (by decide +kernel) (ja_cons j_int (ja_cons (j_op op_sub os_sub (j_fld (C := "LengthSet") L.first (jv 0) rfl) (jv 1)) ja_nil))))
    (js_cons (js_setLc (i := 3) (own := [("number", 4)]) (tt := aYes) (by rfl) sc_ssub.nd rfl rfl (sw_true rfl rfl rfl (by decide +kernel)) (gl_name (i := 4) (by decide)) (ji_range1 rfl T.range (ja_cons (j_op (op_addA K) os_add (jv 2) (j_fld (C := "LengthSet") L.size (jv 0) rfl)) ja_nil)) (blkOk_by (own := [("number", 4)]) (N := ["self", "other", "start", "flags", "number"]) (sc := defScope s_ssub) (by decide +kernel)) (fun _ _ _ _ _ => (pg_name (i := 4) sc_ssub.nd rfl (Or.inl rfl))) (fun _ _ _ _ _ => jts_nil) (fun _ _ _ _ _ => (j_cmp (kop_inO hHas hr (by omega)) os_inO (j_op (op_addA K) os_add (jv 4) (jv 1)) (jv 0) rfl)))
    (js_one (js_ret (j_fc cOf hr (by omega) rfl (L2N.passAt (L2N.takes_of rfl rfl rfl rfl)) (ja_cons (jv 3) (ja_cons (jv 2) ja_nil)))))))))) ?_ ?_) D.b⟩
  · intro ds S Q E h
    rcases h with h | h
    · obtain ⟨a, b, rfl, _⟩ := opt_two h
      rfl
    · obtain ⟨a, b, rfl, _⟩ := opt_two h
      rfl
  · intro ds S Q E h
    rcases h with h | h
    · obtain ⟨x1, x2, rfl, o, o2, eq, qe, q⟩ := opt_two h
      clear h
      cases eq
      refine seq_by fun N1 hN1 => ?_
      simp_arith [fIsiC, ins_ls, spJoined]
      exact ⟨o, o2, _, rfl, qe, q⟩
    · obtain ⟨x1, x2, rfl, o, i, eq, qe, q⟩ := opt_two h
      clear h
      cases eq
      have b1 := o.b1
      have b2 := o.b2
      have s0 := o.size_pos
      have ni : insOf S (.int i) "LengthSet" = none := rfl
      have mi : "int" ∈ ["list", "tuple", "int", "NoneType", "str", "bool"] := by decide
      refine seq_by fun N1 hN1 => ?_
      simp_arith [fIsiC, ni, mi]
      refine hN1 _ _ ?_
      clear hN1
      refine seq_by fun N1 hN1 => ?_
      simp_arith [spShift]
      refine ⟨i, rfl, fun z => qe z, fun z => ?_⟩
      obtain ⟨k, rfl⟩ := Int.eq_ofNat_of_zero_le z
      have qq := q z
      clear q qe
      try simp_arith
      refine hN1 _ _ ?_
      clear hN1
      refine seq_by fun N1 hN1 => ?_
      have e1 : (if (0 : Int) < (o.first : Int) - (k : Int) then (o.first : Int) - (k : Int) else 0) = ((o.first - k : Nat) : Int) := by split <;> omega
      simp_arith [ins_ls, f_first, e1]
      refine hN1 _ _ ?_
      clear hN1
      refine seq_by fun N1 hN1 => ?_
      have e2 : ((o.first - k : Nat) : Int) + (o.size : Int) = ((o.first - k + o.size : Nat) : Int) := by omega
      simp_arith [ins_ls, f_size, e2]
      refine ⟨⟨by omega, by omega⟩, ?_⟩
      rw [Int.toNat_natCast]
      refine lc_rng (fun _ => true) (fun n => .bl (o.f (n + k))) (by omega) (fun n hn Y F hY _ => ?_) ?_
      · have e3 : (n : Int) + (k : Int) = ((n + k : Nat) : Int) := by omega
        have e4 : hasD o (.int ((n + k : Nat) : Int)) = o.f (n + k) := by
          show (decide (0 ≤ ((n + k : Nat) : Int)) && o.f ((n + k : Nat) : Int).toNat) = _
          rw [decide_eq_true (by omega), Int.toNat_natCast]
          rfl
        simp_arith [dInO, ins_ls, e3, spHas]
        refine ⟨o, _, rfl, rfl, ?_⟩
        rw [e4]
        try simp_arith
        exact hY rfl
      · have e5 : ((List.range (o.first - k + o.size)).filter fun _ => true).map (fun n => A.D.bl (o.f (n + k))) = flL (fun n => o.f (n + k)) (o.first - k + o.size) := by
          rw [List.filter_eq_self.mpr fun _ _ => rfl]
          rfl
        rw [e5]
        refine hN1 _ _ ?_
        clear hN1
        simp_arith [spOfFlags]
        refine ⟨_, o.first - k, o.size, rfl, s0, b2, by omega, fun n hn => ?_, fun r hr => qq r (by rw [hr, Int.toNat_natCast])⟩
        show o.f (n + o.size + k) = o.f (n + k)
        rw [show n + o.size + k = n + k + o.size by omega]
        exact o.ok.per _ (by omega)
/-- what stands behind a shift up -/
theorem up_flags {o : LS} {k : Nat} : repD [A.D.bl false] (k : Int) ++ flL o.f (o.first + o.size) = flL (fun n => if n < k then false else o.f (n - k)) (o.first + k + o.size) := by
  have e1 : repD [A.D.bl false] (k : Int) = List.replicate k (A.D.bl false) := by
    unfold repD
    rw [Int.toNat_natCast]
    induction k with
    | zero => rfl
    | succ k ih => simp [List.replicate_succ, ih]
  rw [e1]
  unfold flL
  refine List.ext_getElem? fun i => ?_
  rw [List.getElem?_append, List.length_replicate]
  by_cases h : i < k
  · rw [if_pos h, List.getElem?_map, List.getElem?_range (show i < o.first + k + o.size by omega)]
    simp [h]
  · rw [if_neg h]
    by_cases h2 : i - k < o.first + o.size
    · rw [List.getElem?_map, List.getElem?_range h2, List.getElem?_map, List.getElem?_range (show i < o.first + k + o.size by omega)]
      simp [h]
    · rw [List.getElem?_eq_none (by simp; omega), List.getElem?_eq_none (by simp; omega)]
theorem up_per {o : LS} {k : Nat} : Per (fun n => if n < k then false else o.f (n - k)) (o.first + k) o.size := fun n hn => by
  show (if n + o.size < k then false else o.f (n + o.size - k)) = (if n < k then false else o.f (n - k))
  rw [if_neg (by omega), if_neg (by omega), show n + o.size - k = n - k + o.size by omega]
  exact o.ok.per _ (by omega)
theorem d_sadd (D : MDf K "__add__" "LengthSet.__add__" s_sadd ["self", "other"] f fd) (T : Bn mg) (L : LSc K cA mg) {tk : Tok} (gMost : mg "MOST" = some (.int 5000 tk)) (xTooLarge : XCls P K mg "TooLarge" (cA "TooLarge") "limit") (cSh : Fnc P w K mg base 1 "is_shift" (upSp ⟨K, cA⟩ spShift))
    (cF : Fnc P w K mg base 1 "flags_of" (upSp ⟨K, cA⟩ spFlags)) (cOf : Fnc P w K mg base 6 "set_of_flags" (upSp ⟨K, cA⟩ spOfFlags)) (hf : PySem.W.findIn K (.ref (cA "LengthSet")) "__add__" = some (some (.ref f))) (hi : PySem.W.isFn K (.ref f) = true) : Own P w K mg base 7 (cA "LengthSet") "__add__" (upSp ⟨K, cA⟩ spAddL) := by
  refine ⟨f, hf, hi, fnR_of (def_ok (k := 6) D.F sc_sadd (fun cdv A outer s H E hr => (js_cons (js_if (jt_not (jt_val (j_fc cSh hr (by omega) rfl (L2N.passAt (L2N.takes_of rfl rfl rfl rfl)) (ja_cons (jv 1) ja_nil))))
      (js_one js_never)
      js_nil)
    (js_cons (js_if (jt_cmp op_gt os_gt (j_op (op_addA K) os_add (j_fld (C := "LengthSet") L.first (jv 0) rfl) (jv 1)) (j_gint (by rfl) gMost) (nomark _))
      (js_one (js_raise (C := "TooLarge") rfl xTooLarge hr (L2N.takes_of rfl rfl rfl rfl) (ja_cons j_str ja_nil)))
      js_nil)
    (js_cons (js_set (i := 2) sc_sadd.nd rfl (Or.inl rfl) (j_fc cF hr (by omega) rfl (L2N.passAt (L2N.takes_of rfl rfl rfl rfl)) (ja_cons (j_fld (C := "LengthSet") L.members (jv 0) rfl) (ja_cons (j_fld (C := "LengthSet") L.first (jv 0) rfl) (ja_cons (j_fld (C := "LengthSet") L.size (jv 0) rfl) (ja_cons (j_fld (C := "LengthSet") L.tail (jv 0) rfl) (ja_cons (j_op (op_addA K) os_add (j_fld (C := "LengthSet") L.first (jv 0) rfl) (j_fld (C := "LengthSet") L.size (jv 0) rfl)) ja_nil)))))))
    (js_one (js_ret (j_fc cOf hr (by omega) rfl (L2N.passAt (L2N.takes_of rfl rfl rfl rfl)) (ja_cons (j_op (op_addA K) os_add (j_op (op_mulB K) os_mul (j_lst (ja_cons j_bl ja_nil)) (jv 1)) (jv 2)) (ja_cons (j_op (op_addA K) os_add (j_fld (C := "LengthSet") L.first (jv 0) rfl) (jv 1)) ja_nil))))))))) ?_ ?_) D.b⟩
  · intro ds S Q E h
    obtain ⟨a, b, rfl, _⟩ := opt_two h
    rfl
  · intro ds S Q E h
    obtain ⟨x1, x2, rfl, o, i, eq, qe, ql, q⟩ := opt_two h
    clear h
    cases eq
    have b1 := o.b1
    have b2 := o.b2
    have s0 := o.size_pos
    refine seq_by fun N1 hN1 => ?_
    simp_arith [spShift]
    refine ⟨i, rfl, fun z => qe z, fun z => ?_⟩
    obtain ⟨k, rfl⟩ := Int.eq_ofNat_of_zero_le z
    have ql := ql z
    have qq := q z
    clear q qe
    try simp_arith
    refine hN1 _ _ ?_
    clear hN1
    refine seq_by fun N1 hN1 => ?_
    simp_arith [ins_ls, f_first]
    by_cases c : 5000 < (o.first : Int) + (k : Int)
    · rw [if_pos c]
      exact ql c
    rw [if_neg c]
    have qq := qq (by omega)
    refine hN1 _ _ ?_
    clear hN1
    refine seq_by fun N1 hN1 => ?_
    have e1 : (o.first : Int) + (o.size : Int) = ((o.first + o.size : Nat) : Int) := by omega
    simp_arith [ins_ls, f_first, f_size, f_members, f_tail, e1]
    refine flags_by (by omega) (hN1 _ _ ?_)
    clear hN1
    have e2 : (o.first : Int) + (k : Int) = ((o.first + k : Nat) : Int) := by omega
    simp_arith [ins_ls, f_first, e2]
    have lr : (repD [A.D.bl false] (k : Int)).length = k := by unfold repD; rw [flat_len]; simp
    refine ⟨⟨by omega, by omega, by rw [Int.toNat_natCast]; exact big2 (by simp; omega)⟩, by rw [lr, flL_len]; exact big2 (by omega), ?_⟩
    rw [up_flags]
    refine ⟨_, o.first + k, o.size, rfl, s0, b2, by omega, up_per, fun r hr => qq r (by rw [hr, Int.toNat_natCast])⟩
theorem d_sradd (D : MDf K "__radd__" "LengthSet.__radd__" s_sradd ["self", "other"] f fd) (T : Bn mg) (L : LSc K cA mg) {tk : Tok} (gMost : mg "MOST" = some (.int 5000 tk)) (xTooLarge : XCls P K mg "TooLarge" (cA "TooLarge") "limit") (cSh : Fnc P w K mg base 1 "is_shift" (upSp ⟨K, cA⟩ spShift))
    (cF : Fnc P w K mg base 1 "flags_of" (upSp ⟨K, cA⟩ spFlags)) (cOf : Fnc P w K mg base 6 "set_of_flags" (upSp ⟨K, cA⟩ spOfFlags)) (hf : PySem.W.findIn K (.ref (cA "LengthSet")) "__radd__" = some (some (.ref f))) (hi : PySem.W.isFn K (.ref f) = true) : Own P w K mg base 7 (cA "LengthSet") "__radd__" (upSp ⟨K, cA⟩ spAddL) := by
  refine ⟨f, hf, hi, fnR_of (def_ok (k := 6) D.F sc_sradd (fun cdv A outer s H E hr => (js_cons (js_if (jt_not (jt_val (j_fc cSh hr (by omega) rfl (L2N.passAt (L2N.takes_of rfl rfl rfl rfl)) (ja_cons (jv 1) ja_nil))))
      (js_one js_never)
      js_nil)
    (js_cons (js_if (jt_cmp op_gt os_gt (j_op (op_addA K) os_add (j_fld (C := "LengthSet") L.first (jv 0) rfl) (jv 1)) (j_gint (by rfl) gMost) (nomark _))
      (js_one (js_raise (C := "TooLarge") rfl xTooLarge hr (L2N.takes_of rfl rfl rfl rfl) (ja_cons j_str ja_nil)))
      js_nil)
    (js_cons (js_set (i := 2) sc_sradd.nd rfl (Or.inl rfl) (j_fc cF hr (by omega) rfl (L2N.passAt (L2N.takes_of rfl rfl rfl rfl)) (ja_cons (j_fld (C := "LengthSet") L.members (jv 0) rfl) (ja_cons (j_fld (C := "LengthSet") L.first (jv 0) rfl) (ja_cons (j_fld (C := "LengthSet") L.size (jv 0) rfl) (ja_cons (j_fld (C := "LengthSet") L.tail (jv 0) rfl) (ja_cons (j_op (op_addA K) os_add (j_fld (C := "LengthSet") L.first (jv 0) rfl) (j_fld (C := "LengthSet") L.size (jv 0) rfl)) ja_nil)))))))
    (js_one (js_ret (j_fc cOf hr (by omega) rfl (L2N.passAt (L2N.takes_of rfl rfl rfl rfl)) (ja_cons (j_op (op_addA K) os_add (j_op (op_mulB K) os_mul (j_lst (ja_cons j_bl ja_nil)) (jv 1)) (jv 2)) (ja_cons (j_op (op_addA K) os_add (j_fld (C := "LengthSet") L.first (jv 0) rfl) (jv 1)) ja_nil))))))))) ?_ ?_) D.b⟩
  · intro ds S Q E h
    obtain ⟨a, b, rfl, _⟩ := opt_two h
    rfl
  · intro ds S Q E h
    obtain ⟨x1, x2, rfl, o, i, eq, qe, ql, q⟩ := opt_two h
    clear h
    cases eq
    have b1 := o.b1
    have b2 := o.b2
    have s0 := o.size_pos
    refine seq_by fun N1 hN1 => ?_
    simp_arith [spShift]
    refine ⟨i, rfl, fun z => qe z, fun z => ?_⟩
    obtain ⟨k, rfl⟩ := Int.eq_ofNat_of_zero_le z
    have ql := ql z
    have qq := q z
    clear q qe
    try simp_arith
    refine hN1 _ _ ?_
    clear hN1
    refine seq_by fun N1 hN1 => ?_
    simp_arith [ins_ls, f_first]
    by_cases c : 5000 < (o.first : Int) + (k : Int)
    · rw [if_pos c]
      exact ql c
    rw [if_neg c]
    have qq := qq (by omega)
    refine hN1 _ _ ?_
    clear hN1
    refine seq_by fun N1 hN1 => ?_
    have e1 : (o.first : Int) + (o.size : Int) = ((o.first + o.size : Nat) : Int) := by omega
    simp_arith [ins_ls, f_first, f_size, f_members, f_tail, e1]
    refine flags_by (by omega) (hN1 _ _ ?_)
    clear hN1
    have e2 : (o.first : Int) + (k : Int) = ((o.first + k : Nat) : Int) := by omega
    simp_arith [ins_ls, f_first, e2]
    have lr : (repD [A.D.bl false] (k : Int)).length = k := by unfold repD; rw [flat_len]; simp
    refine ⟨⟨by omega, by omega, by rw [Int.toNat_natCast]; exact big2 (by simp; omega)⟩, by rw [lr, flL_len]; exact big2 (by omega), ?_⟩
    rw [up_flags]
    refine ⟨_, o.first + k, o.size, rfl, s0, b2, by omega, up_per, fun r hr => qq r (by rw [hr, Int.toNat_natCast])⟩
end


open Sm
/-! ### below (a generator), none -/
abbrev s_below : Stmt := (inClass (topS 19) 10)
theorem sc_below : GScope ["self", "bound", "flags", "number"] ["self", "bound"] (defScope s_below) := ⟨rfl, rfl, rfl, by decide +kernel, rfl, by decide +kernel, by decide +kernel⟩
abbrev s_snone : Stmt := (inClass (topS 19) 5)
theorem sc_snone : FnScope [] [] (defScope s_snone) := ⟨rfl, rfl, rfl, by decide +kernel, rfl, by decide +kernel, by decide +kernel⟩
theorem passF {X : Cx} : ∀ σ : L2.St, PassesAt (L2N.CX X.prog X.w) X σ (WE (fun _ _ _ _ => False) σ) := fun σ pins H s e s' I c => by
  obtain ⟨_, _, _, _, _, _, _, _, _, _, _, _, z⟩ := c
  exact z.elim
theorem forG_rng {g : AG} {tb : AGn} {De : EndsG} {n : Nat} (I : Nat → List Int → Ev → Sto → Prop) (hd : ∀ ns ρ S, I n ns ρ S → De.nx ns ρ S)
    (hs : ∀ i ns ρ S, i < n → I i ns ρ S → ∀ F : List Int → Ev → Sto → Prop, (∀ ns' ρ' S', I (i + 1) ns' ρ' S' → F ns' ρ' S') → g (.int (i : Int)) ρ fun ρ1 => tb { De with nx := F, ct := F, bk := De.nx } ns ρ1 S) {ns : List Int} {ρ : Ev} {S : Sto} (h : I 0 ns ρ S) : forG g tb De (rng 0 n) ns ρ S := by
  have key : ∀ (j k : Nat), k + j = n → ∀ ns ρ S, I k ns ρ S → forG g tb De ((List.range' k j).map fun (j : Nat) => A.D.int (j : Int)) ns ρ S := by
    intro j
    induction j with
    | zero =>
      intro k e ns ρ S h
      have e2 : k = n := by omega
      subst e2
      exact hd ns ρ S h
    | succ j ih =>
      intro k e ns ρ S h
      exact hs k ns ρ S (by omega) h _ fun ns' ρ' S' h' => ih (k + 1) (by omega) ns' ρ' S' h'
  have e := rng_eq (a := 0) (n := n)
  rw [show ((0 : Nat) : Int) = (0 : Int) from rfl] at e
  rw [e]
  exact key n 0 (by omega) ns ρ S h
def spBelow : GSp := fun ds S Q => ∃ (o : LS) (b : Nat), ds = [lsD o, .int b] ∧ b ≤ 10000 ∧ Q (intsN ((List.range b).filter o.f)) S
def spNone : ASp := fun ds S Q _ => ds = [] ∧ ∀ o : LS, o.f = (fun _ => false) → Q (lsD o) S
section
variable {P : Program} {w : World} {K : PySem.W.Frag} {cA : Str → Addr} {mg : Str → Option Value} {base : Heap} {f : Addr} {fd : FuncData}
theorem d_below (D : MDf K "below" "LengthSet.below" s_below ["self", "bound"] f fd) (T : Bn mg) (L : LSc K cA mg) {tk : Tok} (gMB : mg "MOST_BOUND_sets" = some (.int 10000 tk)) (cK : Fnc P w K mg base 1 "is_count" (upSp ⟨K, cA⟩ spCount)) (cF : Fnc P w K mg base 1 "flags_of" (upSp ⟨K, cA⟩ spFlags))
    (hm : Meth K (cA "LengthSet") "below" f) : MtdG P w K mg base 3 (cA "LengthSet") "below" (upSpG ⟨K, cA⟩ spBelow) := by
  refine ⟨f, fd, ["self", "bound"], L.first.1, hm, defG_ok (k := 2) D.F sc_below (fun cdv A outer s H E pn hr => (jg_cons (jg_ps (js_if (JW.jt (jw_or (jt_not (jt_val (j_fc cK hr (by omega) rfl passF (ja_cons (jv 1) ja_nil)))) (jw_or1 (jt_cmp op_gt os_gt (jv 1) (j_gint (by rfl) gMB) (nomark _)))))
      (js_one js_never)
      js_nil))
    (jg_cons (jg_ps (js_set (i := 2) sc_below.nd rfl (Or.inl rfl) (j_fc cF hr (by omega) rfl passF (ja_cons (j_fld (C := "LengthSet") L.members (jv 0) rfl) (ja_cons (j_fld (C := "LengthSet") L.first (jv 0) rfl) (ja_cons (j_fld (C := "LengthSet") L.size (jv 0) rfl) (ja_cons (j_fld (C := "LengthSet") L.tail (jv 0) rfl) (ja_cons (jv 1) ja_nil))))))))
    (jg_cons (jg_for (vs := [0, 1, 2, 3]) (gl_name (i := 3) (by decide)) owns_gcx rfl (ji_range1 rfl T.range (ja_cons (jv 1) ja_nil)) (pg_name (i := 3) sc_below.nd rfl (Or.inl rfl))
      (jg_cons (jg_if (jt_val (j_ix (kix_lt K) os_ix (jv 2) (jv 3) (fun _ _ => rfl)))
        (jg_cons (jg_yield (jv 3))
        jg_nil)
        jg_nil)
      jg_nil))
    jg_nil)))) ?_ ?_, D.b⟩
  · rintro ds S Q ⟨o, b, rfl, _⟩
    rfl
  · rintro ds S Q ⟨o, b, rfl, hb, q⟩
    have b1 := o.b1
    have b2 := o.b2
    have c0 : isCnt (.int (b : Int)) = true := by simp [isCnt]
    simp_arith [spCount, c0]
    refine ⟨rfl, ?_⟩
    rw [if_neg (by omega)]
    simp_arith [ins_ls, f_first, f_size, f_members, f_tail]
    refine flags_by (by omega) ⟨⟨by omega, by omega⟩, ?_⟩
    rw [Int.toNat_natCast]
    refine forG_rng (fun i ns ρ S' => (∃ o3, ρ = [some (lsD o), some (.int b), some (.lst (flL o.f b)), o3]) ∧ S' = S ∧ ns = intsN ((List.range i).filter o.f)) ?_ ?_ ⟨⟨_, rfl⟩, rfl, rfl⟩
    · rintro ns ρ S' ⟨_, rfl, rfl⟩
      exact q
    · rintro i ns ρ S' hi ⟨⟨o3, rfl⟩, rfl, rfl⟩ F hF
      simp_arith [flL_at hi]
      by_cases c : o.f i = true
      · rw [if_pos c]
        refine ⟨?_, hF _ _ _ ⟨⟨_, rfl⟩, rfl, ?_⟩⟩
        · have := List.length_filter_le o.f (List.range i)
          rw [List.length_range] at this
          simp only [intsN, List.length_map]
          unfold big
          omega
        · rw [List.range_succ, List.filter_append]
          simp [intsN, c]
      · rw [if_neg c]
        refine hF _ _ _ ⟨⟨_, rfl⟩, rfl, ?_⟩
        rw [List.range_succ, List.filter_append]
        simp [c]
theorem d_snone (D : MDf K "none" "LengthSet.none" s_snone [] f fd) (T : Bn mg) (mLS0 : MkF P w K mg base ⟨K, cA⟩ 4 "LengthSet" "LengthSet" (dflSp [.tup [], .int 0, .int 1, .tup []] spMk)) (hm : SMet K (cA "LengthSet") "none" f) :
    StM P w K mg base 6 (cA "LengthSet") "none" (upSp ⟨K, cA⟩ spNone) := by
  refine ⟨f, hm, fnR_of (def_ok (k := 5) D.F sc_snone (fun cdv A outer s H E hr => (js_one (js_ret (j_nwF0 (C := "LengthSet") mLS0 hr (by omega) rfl (L2N.passAt (L2N.takes_of rfl rfl rfl rfl)))))) ?_ ?_) D.b⟩
  · rintro ds S Q E ⟨rfl, _⟩
    rfl
  · rintro ds S Q E ⟨rfl, q⟩
    simp_arith [dflSp]
    refine mk_by rfl rfl fun o ho => q o ?_
    rw [ho]
    funext n
    simp [setF, numsD, sqOf, numI, hasN]
end


open Sm
/-! ### small sets: plain -/
/-- small: from 5 on the period is 12 -/
def Sml (f : Nat → Bool) : Prop := Per f 5 12
theorem sml_fd {a p : Nat} {u v : Nat → Bool} (ha : a ≤ 5) (p0 : 1 ≤ p) (p1 : p ≤ 4) : Sml (fdF a p u v) := by
  have h : Per (fdF a p u v) a p := hasN_per
  refine (h.dvd ?_).up ha
  have : p = 1 ∨ p = 2 ∨ p = 3 ∨ p = 4 := by omega
  rcases this with rfl | rfl | rfl | rfl <;> rfl
theorem Sml.size {o : LS} (h : Sml o.f) : o.size ≤ 12 := o.ok.least.2 _ _ (by decide) h
theorem sml_lcm {o o2 : LS} (h : Sml o.f) (h2 : Sml o2.f) : lcmP o.size o2.size ≤ 5000 := by
  have h1 := h.size
  have h3 := h2.size
  have a : o.size / Nat.gcd o.size o2.size ≤ 12 := Nat.le_trans (Nat.div_le_self _ _) h1
  have b : lcmP o.size o2.size ≤ 12 * 12 := Nat.mul_le_mul a h3
  omega
theorem Sml.zip {f g : Nat → Bool} (o : Bool → Bool → Bool) (hf : Sml f) (hg : Sml g) : Sml fun n => o (f n) (g n) := Per.zip o hf hg
theorem Sml.not {f : Nat → Bool} (hf : Sml f) : Sml fun n => !f n := Per.not hf
/-- what is true below 60 is true -/
theorem sml_rep {f g : Nat → Bool} (hf : Sml f) (hg : Sml g) (n : Nat) : ∃ i, i < 60 ∧ f n = f i ∧ g n = g i := by
  by_cases h : n < 5
  · exact ⟨n, by omega, rfl, rfl⟩
  · have m1 : 5 + (n - 5) % 12 < 60 := by have := Nat.mod_lt (n - 5) (show 0 < 12 by decide); omega
    have em : n % 12 = (5 + (n - 5) % 12) % 12 := by omega
    exact ⟨_, m1, hf.same (by omega) (by omega) em (by decide), hg.same (by omega) (by omega) em (by decide)⟩
theorem flt_ext {f g : Nat → Bool} {n : Nat} (h : ∀ i, i < n → f i = g i) : fltD f n = fltD g n := by
  unfold fltD
  rw [List.filter_congr fun i hi => h i (List.mem_range.mp hi)]
theorem flt_iff {f g : Nat → Bool} {n : Nat} : intsN ((List.range n).filter f) = intsN ((List.range n).filter g) ↔ ∀ i, i < n → f i = g i := by
  rw [ints_inj]
  constructor
  · intro h i hi
    have : i ∈ (List.range n).filter f ↔ i ∈ (List.range n).filter g := by rw [h]
    rw [List.mem_filter, List.mem_filter, List.mem_range] at this
    rw [Bool.eq_iff_iff]
    exact ⟨fun z => (this.mp ⟨hi, z⟩).2, fun z => (this.mpr ⟨hi, z⟩).2⟩
  · intro h
    exact List.filter_congr fun i hi => h i (List.mem_range.mp hi)
theorem eqD_flt {f g : Nat → Bool} {n : Nat} : eqD (.lst (fltD f n)) (.lst (fltD g n)) = decide (∀ i, i < n → f i = g i) := by
  unfold fltD
  rw [eqD_lints, Bool.eq_iff_iff, decide_eq_true_iff, decide_eq_true_iff, flt_iff]
theorem dat_flt {f : Nat → Bool} {n : Nat} : dat (.lst (fltD f n)) = true := dat_lints
theorem mem_flt {f : Nat → Bool} {n i : Nat} (h : i < n) : decide ((i : Int) ∈ intsN ((List.range n).filter f)) = f i := by
  rw [Bool.eq_iff_iff, decide_eq_true_iff, mem_intsN, List.mem_filter, List.mem_range]
  exact ⟨fun z => z.2, fun z => ⟨h, z⟩⟩
/-- [n for n in xs if ..], xs a kept row -/
theorem lc_flt {g : AG} {tt : AM Bool} {te : AM A.D} {ρ : Ev} {Q : List A.D → Sto → Prop} {S : Sto} (f p : Nat → Bool) (r : Nat → A.D) {n : Nat} (hn : n ≤ 1000000)
    (h : ∀ i, i < n → f i = true → ∀ (Y : A.D → Sto → Prop) (F : Sto → Prop), (p i = true → Y (r i) S) → (p i = false → F S) → g (.int (i : Int)) ρ fun ρ2 => tt ρ2 S (fun b S3 => if b = true then te ρ2 S3 Y (fun _ _ => False) else F S3) fun _ _ => False)
    (q : Q (((List.range n).filter fun i => p i && f i).map r) S) : lcX g tt te ρ Q (fltD f n) [] S := by
  have e : fltD f n = ((List.range n).filter f).map fun (i : Nat) => A.D.int (i : Int) := by
    unfold fltD intD intsN
    rw [List.map_map]
    rfl
  rw [e]
  refine lcX_map (fun d => p (numI d).toNat) (fun d => r (numI d).toNat) (by rw [List.length_map]; exact Nat.le_trans (List.length_filter_le _ _) (by simpa using hn)) (fun x hx Y F hY hF => ?_) ?_
  · obtain ⟨i, hi, rfl⟩ := List.mem_map.mp hx
    obtain ⟨hi, hf⟩ := List.mem_filter.mp hi
    exact h i (List.mem_range.mp hi) hf Y F hY hF
  · rw [List.filter_map, List.map_map, List.filter_filter]
    exact q
theorem bin_by {w : Str} {o o2 : LS} {S : Sto} {Q : QD} {E : XQ} (h : Sml o.f) (h2 : Sml o2.f) (q : ∀ r : LS, r.f = (fun n => jop w (o.f n) (o2.f n)) → Q (lsD r) S) : spBin w [lsD o, lsD o2] S Q E := ⟨o, o2, rfl, fun z => by have := sml_lcm h h2; omega, fun _ r hr => q r hr⟩
theorem add_by {o : LS} {k : Nat} {S : Sto} {Q : QD} {E : XQ} (h : o.first + k ≤ 5000) (q : ∀ r : LS, r.f = (fun n => if n < k then false else o.f (n - k)) → Q (lsD r) S) : spAddL [lsD o, .int k] S Q E :=
  ⟨o, k, rfl, fun z => by omega, fun _ z => by omega, fun _ _ r hr => q r (by rw [hr, Int.toNat_natCast])⟩
theorem sub_by {o : LS} {k : Nat} {S : Sto} {Q : QD} {E : XQ} (q : ∀ r : LS, r.f = (fun n => o.f (n + k)) → Q (lsD r) S) : spSubL [lsD o, .int k] S Q E :=
  .inr ⟨o, k, rfl, fun z => by omega, fun _ r hr => q r (by rw [hr, Int.toNat_natCast])⟩

/-! ### gone -/
abbrev s_gone : Stmt := (topS 22)
theorem sc_gone : FnScope ["lefts", "lengths", "found", "both", "bound", "steps", "number", "early", "rests", "start", "period", "step"] ["lefts", "lengths"] (defScope s_gone) := ⟨rfl, rfl, rfl, by decide +kernel, rfl, by decide +kernel, by decide +kernel⟩
theorem gone_step {f g : Nat → Bool} {a b L n : Nat} (hf : Per f a L) (hg : Per g b L) (L0 : 0 < L) : ∀ s, g s = true → f (n + s) = true → ∃ t, t < a + b + L ∧ g t = true ∧ f (n + t) = true := by
  intro s
  induction s using Nat.strongRecOn with
  | ind s ih =>
    intro h1 h2
    by_cases c : s < a + b + L
    · exact ⟨s, c, h1, h2⟩
    · have e1 := hg (s - L) (by omega)
      have e2 := hf (n + (s - L)) (by omega)
      rw [show s - L + L = s by omega] at e1
      rw [show n + (s - L) + L = n + s by omega] at e2
      exact ih (s - L) (by omega) (by rw [← e1]; exact h1) (by rw [← e2]; exact h2)
/-- some way leads from n to a member of f by a length of g -/
def goneF (f g : Nat → Bool) (n : Nat) : Bool := (List.range 22).any fun s => g s && f (n + s)
theorem any_iff {p q : Nat → Bool} {n : Nat} : ((List.range n).any fun s => p s && q s) = true ↔ ∃ s, s < n ∧ p s = true ∧ q s = true := by
  rw [List.any_eq_true]
  simp only [List.mem_range, Bool.and_eq_true]
theorem goneF_iff {f g : Nat → Bool} {n : Nat} (hf : Sml f) (hg : Sml g) : goneF f g n = true ↔ ∃ s, g s = true ∧ f (n + s) = true := by
  unfold goneF
  rw [any_iff (q := fun s => f (n + s))]
  exact ⟨fun ⟨s, _, h⟩ => ⟨s, h⟩, fun ⟨s, h1, h2⟩ => gone_step hf hg (by decide) s h1 h2⟩
theorem gone_bd {o o2 : LS} (hf : Sml o.f) (hg : Sml o2.f) (n : Nat) : ((List.range (o.first + o2.first + lcmP o.size o2.size)).any fun s => o2.f s && o.f (n + s)) = goneF o.f o2.f n := by
  rw [Bool.eq_iff_iff, goneF_iff hf hg, any_iff (q := fun s => o.f (n + s))]
  refine ⟨fun ⟨s, _, h⟩ => ⟨s, h⟩, fun ⟨s, h1, h2⟩ => gone_step (o.ok.per.dvd lcm_l) (o2.ok.per.dvd lcm_r) (lcm_pos o.size_pos o2.size_pos) s h1 h2⟩
theorem goneF_per {f g : Nat → Bool} {a p : Nat} (hf : Per f a p) : Per (goneF f g) a p := fun n hn => by
  unfold goneF
  congr 1
  funext s
  rw [show n + p + s = n + s + p by omega, hf (n + s) (by omega)]
theorem Sml.first {o : LS} (h : Sml o.f) : o.first ≤ 5 := by
  obtain ⟨s, e, h1, _⟩ := canon_ex (P := 12) (by decide) h (by decide) (by decide)
  have := LS.ext e
  subst this
  exact h1
theorem for_rngI {g : AG} {tb : AS} {De : EndsA} {n : Nat} (I : Nat → Ev → Sto → Prop) (hn : ∀ ρ S, I n ρ S → De.nx ρ S) (hc : ∀ i ρ S, i < n → I i ρ S → ∀ F : Ev → Sto → Prop, (∀ ρ' S', I (i + 1) ρ' S' → F ρ' S') → g (.int (i : Int)) ρ fun ρ1 => tb { De with nx := F, ct := F, bk := De.nx } ρ1 S)
    {ρ : Ev} {S : Sto} (h : I 0 ρ S) : forX g tb De (rng 0 n) ρ S := by
  have e := rng_eq (a := 0) (n := n)
  rw [show ((0 : Nat) : Int) = (0 : Int) from rfl] at e
  rw [e]
  refine forX_by (fun r ρ S' => ∃ k j, r = (List.range' k j).map (fun (j : Nat) => A.D.int (j : Int)) ∧ k + j = n ∧ I k ρ S') ?_ ?_ ⟨0, n, rfl, by omega, h⟩
  · rintro ρ S' ⟨k, j, e, hj, hp⟩
    cases j with
    | zero =>
      have : k = n := by omega
      subst this
      exact hn ρ _ hp
    | succ j => simp [List.range'] at e
  · rintro x r ρ S' ⟨k, j, e, hj, hp⟩ F hF
    cases j with
    | zero => simp at e
    | succ j =>
      obtain ⟨rfl, rfl⟩ : x = .int (k : Int) ∧ r = (List.range' (k + 1) j).map (fun (j : Nat) => A.D.int (j : Int)) := by simpa [List.range'] using e
      exact hc k ρ _ (by omega) hp F fun ρ' S' hp' => hF _ _ ⟨k + 1, j, rfl, by omega, hp'⟩
theorem fltD_succ {p : Nat → Bool} {i : Nat} : fltD p (i + 1) = if p i = true then fltD p i ++ [.int (i : Int)] else fltD p i := by
  unfold fltD intD intsN
  rw [List.range_succ, List.filter_append]
  by_cases c : p i = true
  · rw [if_pos c]
    simp [c]
  · rw [if_neg c]
    simp [c]
theorem fltD_len {p : Nat → Bool} {i : Nat} : (fltD p i).length ≤ i := by
  unfold fltD intD intsN
  rw [List.length_map, List.length_map]
  have := List.length_filter_le p (List.range i)
  rw [List.length_range] at this
  exact this
theorem lcR_flt {g : AG} {tt : AM Bool} {te : AM A.D} {ρ : Ev} {Q : List A.D → Sto → Prop} {S : Sto} {m : Nat} (f p : Nat → Bool) (r : Nat → A.D) {n : Nat} (hn : n ≤ 1000000) (hm : lstAt S m = some (fltD f n))
    (h : ∀ i, i < n → f i = true → ∀ (Y : A.D → Sto → Prop) (F : Sto → Prop), (p i = true → Y (r i) S) → (p i = false → F S) → g (.int (i : Int)) ρ fun ρ2 => tt ρ2 S (fun b S3 => if b = true then te ρ2 S3 Y (fun _ _ => False) else F S3) fun _ _ => False)
    (q : Q (((List.range n).filter fun i => p i && f i).map r) S) : lcR m (fltD f n) g tt te ρ Q (fltD f n) [] S := by
  have e : fltD f n = ((List.range n).filter f).map fun (i : Nat) => A.D.int (i : Int) := by
    unfold fltD intD intsN
    rw [List.map_map]
    rfl
  refine lcR_mapF (fun d => p (numI d).toNat) (fun d => r (numI d).toNat) hm (Nat.le_trans fltD_len hn) (fun x hx Y F hY hF => ?_) ?_
  · rw [e] at hx
    obtain ⟨i, hi, rfl⟩ := List.mem_map.mp hx
    obtain ⟨hi, hf⟩ := List.mem_filter.mp hi
    exact h i (List.mem_range.mp hi) hf Y F hY hF
  · rw [e, List.filter_map, List.map_map, List.filter_filter]
    exact q
theorem asc_extI : ∀ {a b : List Int}, a.Pairwise (· < ·) → b.Pairwise (· < ·) → (∀ x, x ∈ a ↔ x ∈ b) → a = b
  | [], [], _, _, _ => rfl
  | [], y :: b, _, _, h => by have := (h y).mpr (by simp); simp at this
  | x :: a, [], _, _, h => by have := (h x).mp (by simp); simp at this
  | x :: a, y :: b, ha, hb, h => by
    obtain ⟨a1, a2⟩ := List.pairwise_cons.mp ha
    obtain ⟨b1, b2⟩ := List.pairwise_cons.mp hb
    have e : x = y := by
      have h1 := (h x).mp (by simp)
      have h2 := (h y).mpr (by simp)
      rcases List.mem_cons.mp h1 with e | h1
      · exact e
      · rcases List.mem_cons.mp h2 with e | h2
        · exact e.symm
        · have := a1 y h2
          have := b1 x h1
          omega
    subst e
    rw [asc_extI a2 b2 fun z => ?_]
    constructor
    · intro hz
      rcases List.mem_cons.mp ((h z).mp (by simp [hz])) with e | w
      · have := a1 z hz; omega
      · exact w
    · intro hz
      rcases List.mem_cons.mp ((h z).mpr (by simp [hz])) with e | w
      · have := b1 z hz; omega
      · exact w
theorem early_list {G : Nat → Bool} {a p : Nat} : ((List.range (a + p)).filter fun i => decide (i < a) && G i) = (List.range a).filter G := by
  rw [List.range_add, List.filter_append]
  have e1 : ((List.map (fun x => a + x) (List.range p)).filter fun i => decide (i < a) && G i) = [] := by
    rw [List.filter_eq_nil_iff]
    intro x hx
    obtain ⟨y, _, rfl⟩ := List.mem_map.mp hx
    rw [show decide (a + y < a) = false from decide_eq_false (by omega)]
    simp
  rw [e1, List.append_nil]
  refine List.filter_congr fun x hx => ?_
  simp [List.mem_range.mp hx]
theorem mod_inj {a p i j : Nat} (hi : a ≤ i) (hj : a ≤ j) (i2 : i < a + p) (j2 : j < a + p) (h : i % p = j % p) : i = j := by
  have key : ∀ {i j : Nat}, i ≤ j → j < i + p → i % p = j % p → i = j := fun {i j} h1 h2 h3 => by
    have e := Nat.sub_mod_eq_zero_of_mod_eq (m := j) (n := i) (k := p) h3.symm
    have l : j - i < p := by omega
    rw [Nat.mod_eq_of_lt l] at e
    omega
  rcases Nat.le_total i j with z | z
  · exact key z (by omega) h
  · exact (key z (by omega) h.symm).symm
theorem rests_list {G : Nat → Bool} {a p : Nat} (p0 : 0 < p) {ns : List Int} (hp : ns.Perm (intsN (((List.range (a + p)).filter fun i => decide (a ≤ i) && G i).map (· % p)))) (hs : ns.Pairwise (· ≤ ·)) : ns = intsN ((List.range p).filter fun r => G (spot a p r)) := by
  have mem : ∀ {i : Nat}, i ∈ ((List.range (a + p)).filter fun i => decide (a ≤ i) && G i) ↔ i < a + p ∧ a ≤ i ∧ G i = true := fun {i} => by simp [List.mem_filter]
  have nd : (((List.range (a + p)).filter fun i => decide (a ≤ i) && G i).map (· % p)).Nodup := by
    refine List.pairwise_map.mpr ?_
    refine List.Pairwise.imp_of_mem (fun {x y} hx hy h e => ?_) (List.Pairwise.filter _ List.nodup_range)
    obtain ⟨h1, h2, _⟩ := mem.mp hx
    obtain ⟨h3, h4, _⟩ := mem.mp hy
    exact h (mod_inj h2 h4 h1 h3 e)
  have nd2 : (intsN (((List.range (a + p)).filter fun i => decide (a ≤ i) && G i).map (· % p))).Nodup := by
    refine List.pairwise_map.mpr (nd.imp fun h e => h (by omega))
  have nd3 : ns.Nodup := hp.nodup_iff.mpr nd2
  refine asc_extI ?_ (asc_range _) fun x => ?_
  · refine (hs.and nd3).imp fun h => ?_
    have := h.1
    have := h.2
    omega
  · rw [hp.mem_iff]
    unfold intsN
    simp only [List.mem_map]
    constructor
    · rintro ⟨r, ⟨i, hi, rfl⟩, rfl⟩
      obtain ⟨h1, h2, h3⟩ := mem.mp hi
      have hr : i % p < p := Nat.mod_lt _ p0
      have e : spot a p (i % p) = i := mod_inj (spot_ge _ _ _) h2 (spot_lt p0 _) h1 (by rw [spot_mod p0, Nat.mod_mod])
      exact ⟨i % p, List.mem_filter.mpr ⟨List.mem_range.mpr hr, by rw [e]; exact h3⟩, rfl⟩
    · rintro ⟨r, hr, rfl⟩
      obtain ⟨h1, h2⟩ := List.mem_filter.mp hr
      have h1 := List.mem_range.mp h1
      refine ⟨r, ⟨spot a p r, mem.mpr ⟨spot_lt p0 _, spot_ge _ _ _, h2⟩, ?_⟩, rfl⟩
      rw [spot_mod p0, Nat.mod_eq_of_lt h1]
def spGone : ASp := fun ds S Q _ => opt (two2 ds) fun q => ∃ o o2 : LS, q = (lsD o, lsD o2) ∧ Sml o.f ∧ Sml o2.f ∧ ∀ r : LS, r.f = goneF o.f o2.f → Q (lsD r) S
section
variable {P : Program} {w : World} {K : PySem.W.Frag} {cA : Str → Addr} {mg : Str → Option Value} {base : Heap} {f : Addr} {fd : FuncData}
theorem d_gone0 (D : Dfn K mg "gone" s_gone ["lefts", "lengths"] f fd) (T : Bn mg) (L : LSc K cA mg) {tk : Tok} (gMF : mg "MOST_BOUND_fronts" = some (.int 6000 tk)) (cG : Fnc P w K mg base 1 "divisor_of" (upSp ⟨K, cA⟩ spGcd)) (mLS : MkF P w K mg base ⟨K, cA⟩ 4 "LengthSet" "LengthSet" spMk)
    (pSt : Prp P w K mg base 1 (cA "LengthSet") "start" (upSp ⟨K, cA⟩ spFirst)) (pPe : Prp P w K mg base 1 (cA "LengthSet") "period" (upSp ⟨K, cA⟩ spSize)) (gB : MtdG P w K mg base 3 (cA "LengthSet") "below" (upSpG ⟨K, cA⟩ spBelow)) (hHas : Own P w K mg base 2 (cA "LengthSet") "__contains__" (upSp ⟨K, cA⟩ spHas)) :
    Fnc P w K mg base 7 "gone" (upSp ⟨K, cA⟩ spGone) := by
  refine (D.fnc (sp := upSp ⟨K, cA⟩ fun ds S Q E => spGone ds S (fun d S' => ∀ l, Q d (S' ++ [.lst l])) E) (def_ok (k := 6) D.F sc_gone (fun cdv A outer s H E hr => (js_cons (js_set (i := 2) sc_gone.nd rfl (Or.inl rfl) (j_lstM ja_nil))
    (js_cons (js_un (vs := [0, 1, 2, 3, 4, 5, 6, 7, 8, 9, 10, 11]) (gl_tup (m := 2) (gls_cons (gl_name (i := 9) (by decide)) (gls_cons (gl_name (i := 10) (by decide)) gls_nil))) (j_tup (ja_cons (j_pr (C := "LengthSet") pSt hr (by omega) (jv 0)) (ja_cons (j_pr (C := "LengthSet") pPe hr (by omega) (jv 0)) ja_nil))) (kpg_tup K (n := 2) rfl (pgs_cons (pg_name (i := 9) sc_gone.nd rfl (Or.inr rfl)) (pgs_cons (pg_name (i := 10) sc_gone.nd rfl (Or.inr rfl)) pgs_nil))))
    (js_cons (js_set (i := 3) sc_gone.nd rfl (Or.inl rfl) (j_op (op_mulB K) os_mul (j_op op_fdiv os_fdiv (jv 10) (j_fc cG hr (by omega) rfl (L2N.passAt (L2N.takes_of rfl rfl rfl rfl)) (ja_cons (jv 10) (ja_cons (j_pr (C := "LengthSet") pPe hr (by omega) (jv 1)) ja_nil)))) (j_pr (C := "LengthSet") pPe hr (by omega) (jv 1))))
    (js_cons (js_set (i := 4) sc_gone.nd rfl (Or.inl rfl) (j_op (op_addA K) os_add (j_op (op_addA K) os_add (jv 9) (j_pr (C := "LengthSet") pSt hr (by omega) (jv 1))) (jv 3)))
    (js_cons (js_if (jt_cmp op_gt os_gt (j_op (op_addA K) os_add (jv 4) (jv 10)) (j_gint (by rfl) gMF) (nomark _))
      (js_one js_never)
      js_nil)
    (js_cons (js_set (i := 5) sc_gone.nd rfl (Or.inl rfl) (j_listG (C := "LengthSet") gB hr (by omega) (jv 1) (ja_cons (jv 4) ja_nil) (by rfl) T.list (by decide +kernel)))
    (js_cons (js_for (vs := [0, 1, 2, 3, 4, 5, 6, 7, 8, 9, 10, 11]) (gl_name (i := 6) (by decide)) (passes_of rfl) rfl (ji_range1 rfl T.range (ja_cons (j_op (op_addA K) os_add (jv 9) (jv 10)) ja_nil)) (pg_name (i := 6) sc_gone.nd rfl (Or.inr rfl))
      (js_one (js_if (jt_val (j_callB (cr_any rfl) cs_any (by rfl) T.any (by decide +kernel) (ja_cons (j_lc (own := [("step", 11)]) (tt := aYes) (by rfl) sc_gone.nd (gl_name (i := 11) (by decide)) (ji_seq (jv 5)) (blkOk_by (own := [("step", 11)]) (N := ["lefts", "lengths", "found", "both", "bound", "steps", "number", "early", "rests", "start", "period", "step"]) (sc := defScope s_gone) (by decide +kernel)) (fun _ _ _ _ _ => (pg_name (i := 11) sc_gone.nd rfl (Or.inl rfl))) (fun _ _ _ _ _ => jts_nil) (fun _ _ _ _ _ => (j_cmp (kop_inO hHas hr (by omega)) os_inO (j_op (op_addA K) os_add (jv 6) (jv 11)) (jv 0) rfl))) ja_nil)))
        (js_one (js_expr (j_append (jv 2) (ja_cons (jv 6) ja_nil))))
        js_nil)))
    (js_cons (js_setLcR (i := 7) (own := [("number", 6)]) (tt := _) (by rfl) sc_gone.nd rfl rfl (sw_true rfl rfl rfl (by decide +kernel)) (gl_name (i := 6) (by decide)) (jv 2) (blkOk_by (own := [("number", 6)]) (N := ["lefts", "lengths", "found", "both", "bound", "steps", "number", "early", "rests", "start", "period", "step"]) (sc := defScope s_gone) (by decide +kernel)) (fun _ _ _ _ _ => (pg_name (i := 6) sc_gone.nd rfl (Or.inl rfl))) (fun _ _ _ _ _ => (jts_one (jt_cmp op_lt os_lt (jv 6) (jv 9) (nomark _)))) (fun _ _ _ _ _ => (jv 6)))
    (js_cons (js_set (i := 8) sc_gone.nd rfl (Or.inl rfl) (j_callB (kcr_sorted (K := K) rfl) cs_sorted (by rfl) T.sorted (by decide +kernel) (ja_cons (j_lcR (own := [("number", 6)]) (tt := _) (by rfl) sc_gone.nd (gl_name (i := 6) (by decide)) (jv 2) (blkOk_by (own := [("number", 6)]) (N := ["lefts", "lengths", "found", "both", "bound", "steps", "number", "early", "rests", "start", "period", "step"]) (sc := defScope s_gone) (by decide +kernel)) (fun _ _ _ _ _ => (pg_name (i := 6) sc_gone.nd rfl (Or.inl rfl))) (fun _ _ _ _ _ => (jts_one (jt_cmp op_ge os_ge (jv 6) (jv 9) (nomark _)))) (fun _ _ _ _ _ => (j_callTy call_int1 cs_int (by rfl) T.int (by decide +kernel) (ja_cons (j_op op_mod os_mod (jv 6) (jv 10)) ja_nil)))) ja_nil)))
    (js_one (js_ret (j_nwF (C := "LengthSet") mLS hr (by omega) rfl (L2N.passAt (L2N.takes_of rfl rfl rfl rfl)) (ja_cons (jv 7) (ja_cons (jv 9) (ja_cons (jv 10) (ja_cons (jv 8) ja_nil))))))))))))))))) ?_ ?_)).cut2 ?_
  · intro ds S Q E h
    obtain ⟨a, b, rfl, _⟩ := opt_two h
    rfl
  · intro ds S Q E h
    obtain ⟨x1, x2, rfl, o, o2, eq, h1, h2, q⟩ := opt_two h
    clear h
    cases eq
    have s1 := o.size_pos
    have s2 := o2.size_pos
    have b1 := h1.size
    have b2 := h2.size
    have f1 := h1.first
    have f2 := h2.first
    have g0 : 0 < Nat.gcd o.size o2.size := Nat.gcd_pos_of_pos_left _ s1
    have g1 : Nat.gcd o.size o2.size ≤ o.size := Nat.gcd_le_left _ s1
    have e1 : (o.size : Int) / (Nat.gcd o.size o2.size : Nat) * (o2.size : Int) = ((lcmP o.size o2.size : Nat) : Int) := by
      unfold lcmP
      rw [Int.natCast_mul, Int.natCast_ediv]
    have lb := sml_lcm h1 h2
    have e3 : (o.first : Int) + (o2.first : Int) + ((lcmP o.size o2.size : Nat) : Int) = ((o.first + o2.first + lcmP o.size o2.size : Nat) : Int) := by omega
    have ib : ∀ S' : Sto, List.lookup ("below" : Str) (lsF o2) = none := fun _ => by simp [lsF, List.lookup, ofString_beq]
    refine seq_by fun N1 hN1 => ?_
    simp_arith
    refine hN1 _ _ ?_
    clear hN1
    refine seq_by fun N1 hN1 => ?_
    simp_arith [ins_ls, spFirst, spSize]
    refine ⟨o, rfl, o, rfl, ?_⟩
    refine hN1 _ _ ?_
    clear hN1
    refine seq_by fun N1 hN1 => ?_
    simp_arith [ins_ls, spSize, spGcd]
    have mu : mulOk ((o.size : Int) / (Nat.gcd o.size o2.size : Nat)) (o2.size : Int) := mulS ⟨by omega, by omega⟩
    refine ⟨o2, rfl, _, _, rfl, ⟨by omega, by omega⟩, o2, rfl, mu, ?_⟩
    rw [e1]
    refine hN1 _ _ ?_
    clear hN1
    refine seq_by fun N1 hN1 => ?_
    simp_arith [ins_ls, spFirst]
    refine ⟨o2, rfl, ?_⟩
    rw [e3]
    refine hN1 _ _ ?_
    clear hN1
    refine seq_by fun N1 hN1 => ?_
    simp_arith
    rw [if_neg (by omega)]
    refine hN1 _ _ ?_
    clear hN1
    refine seq_by fun N1 hN1 => ?_
    simp_arith [ins_ls, ib S]
    refine ⟨o2, _, rfl, by omega, ?_⟩
    refine hN1 _ _ ?_
    clear hN1
    refine seq_by fun N1 hN1 => ?_
    have e4 : (o.first : Int) + (o.size : Int) = ((o.first + o.size : Nat) : Int) := by omega
    have stA : ∀ l, lstAt (S ++ [O.lst l]) S.length = some l := fun l => lstAt_of (by simp)
    have stS : ∀ l l', (S ++ [O.lst l]).set S.length (O.lst l') = S ++ [O.lst l'] := fun l l' => by simp
    simp_arith [e4]
    refine ⟨⟨by omega, by omega⟩, ?_⟩
    rw [Int.toNat_natCast]
    refine for_rngI (fun i ρ S' => (∃ x, ρ = [some (lsD o), some (lsD o2), some (A.D.ref S.length), some (A.D.int (lcmP o.size o2.size : Nat)), some (A.D.int (o.first + o2.first + lcmP o.size o2.size : Nat)),
      some (A.D.lst (fltD o2.f (o.first + o2.first + lcmP o.size o2.size))), x, none, none, some (A.D.int o.first), some (A.D.int o.size), none]) ∧ S' = S ++ [.lst (fltD (goneF o.f o2.f) i)]) ?_ ?_ ⟨⟨_, rfl⟩, rfl⟩
    · rintro ρ S' ⟨⟨x, rfl⟩, rfl⟩
      refine hN1 _ _ ?_
      clear hN1
      refine seq_by fun N1 hN1 => ?_
      simp_arith
      refine ⟨intsN ((List.range (o.first + o.size)).filter (goneF o.f o2.f)), rfl, ?_⟩
      refine lcR_flt (goneF o.f o2.f) (fun i => decide (i < o.first)) (fun i => .int (i : Int)) (by omega) (stA _) (fun i hi hf Y F hY hF => ?_) ?_
      · simp_arith
        by_cases c : i < o.first
        · rw [if_pos (by omega)]
          exact hY (decide_eq_true c)
        · rw [if_neg (by omega)]
          exact hF (decide_eq_false c)
      rw [early_list]
      refine hN1 _ _ ?_
      clear hN1
      refine seq_by fun N1 hN1 => ?_
      simp_arith
      refine ⟨intsN ((List.range (o.first + o.size)).filter (goneF o.f o2.f)), rfl, ?_⟩
      refine lcR_flt (goneF o.f o2.f) (fun i => decide (o.first ≤ i)) (fun i => .int ((i % o.size : Nat) : Int)) (by omega) (stA _) (fun i hi hf Y F hY hF => ?_) ?_
      · have e5 : (i : Int) % (o.size : Int) = ((i % o.size : Nat) : Int) := by omega
        simp_arith [e5]
        by_cases c : o.first ≤ i
        · rw [if_pos (by omega)]
          exact ⟨by omega, hY (decide_eq_true c)⟩
        · rw [if_neg (by omega)]
          exact hF (decide_eq_false c)
      · have eL : (List.map (fun i => A.D.int ((i % o.size : Nat) : Int)) (List.filter (fun i => decide (o.first ≤ i) && goneF o.f o2.f i) (List.range (o.first + o.size)))) = (intsN (((List.range (o.first + o.size)).filter fun i => decide (o.first ≤ i) && goneF o.f o2.f i).map (· % o.size))).map A.D.int := by
          unfold intsN
          rw [List.map_map, List.map_map]
          rfl
        rw [eL]
        try simp_arith
        have eI : ∀ (S : Sto) (ns : List Int), intsOf S (.lst (ns.map A.D.int)) = some ns := fun S ns => ints_map ns
        show opt (intsOf _ (A.D.lst _)) _
        rw [eI]
        intro ns hp hs
        rw [rests_list s1 hp hs]
        refine hN1 _ _ ?_
        clear hN1
        have hper : Per (goneF o.f o2.f) o.first o.size := goneF_per o.ok.per
        simp_arith
        rw [int_nats]
        have hw : wrongSet (.lst (fltD (goneF o.f o2.f) o.first)) (.int o.first) (.int o.size) (.lst (fltD (fun i => goneF o.f o2.f (spot o.first o.size i)) o.size)) = none := right_flt (by omega) s1 (by omega)
        refine mk_by (by simp only [Bool.and_eq_true]; exact ⟨pd_flt, rfl, rfl, pd_flt⟩) hw fun o3 ho => q o3 ?_ _
        have e2 : setF (.lst (fltD (goneF o.f o2.f) o.first)) (.int o.first) (.int o.size) (.lst (fltD (fun i => goneF o.f o2.f (spot o.first o.size i)) o.size)) = fdF o.first o.size (goneF o.f o2.f) (fun i => goneF o.f o2.f (spot o.first o.size i)) := setF_flt
        exact ho.trans (e2.trans (hasN_fun hper s1))
    · rintro i ρ S' hi ⟨⟨x, rfl⟩, rfl⟩ F hF
      simp_arith
      refine lc_flt o2.f (fun _ => true) (fun s => .bl (o.f (i + s))) (by omega) (fun s hs hf Y F' hY _ => ?_) ?_
      · have e5 : (i : Int) + (s : Int) = ((i + s : Nat) : Int) := by omega
        have e6 : hasD o (.int ((i + s : Nat) : Int)) = o.f (i + s) := by
          show (decide (0 ≤ ((i + s : Nat) : Int)) && o.f ((i + s : Nat) : Int).toNat) = _
          rw [decide_eq_true (by omega), Int.toNat_natCast]
          rfl
        simp_arith [dAdd, dInO, ins_ls, e5, spHas]
        refine ⟨o, _, rfl, rfl, ?_⟩
        rw [e6]
        try simp_arith
        exact hY rfl
      · obtain ⟨bs, hb⟩ : ∃ bs, bs = (((List.range (o.first + o2.first + lcmP o.size o2.size)).filter fun s => true && o2.f s).map fun s => o.f (i + s)) := ⟨_, rfl⟩
        have e7 : (((List.range (o.first + o2.first + lcmP o.size o2.size)).filter fun s => true && o2.f s).map fun s => A.D.bl (o.f (i + s))) = bs.map A.D.bl := by
          rw [hb, List.map_map]
          rfl
        have e8 : bs.any id = goneF o.f o2.f i := by
          rw [hb, List.any_map, List.any_filter, ← gone_bd h1 h2 i]
          simp
        rw [e7]
        simp_arith [bools_map, e8]
        by_cases c : goneF o.f o2.f i = true
        · rw [if_pos c]
          try simp_arith
          refine ⟨Nat.lt_of_le_of_lt fltD_len (by unfold big; omega), hF _ _ ⟨⟨_, rfl⟩, by rw [fltD_succ, if_pos c]⟩⟩
        · rw [if_neg c]
          exact hF _ _ ⟨⟨_, rfl⟩, by rw [fltD_succ, if_neg c]⟩
  · intro ds S Q E h
    obtain ⟨x1, x2, rfl, o, o2, eq, h1, h2, q⟩ := opt_two h
    refine ⟨o, o2, eq, h1, h2, fun r hr l => ?_⟩
    refine ⟨S, [_], lsD r, rfl, rfl, fun i o e => .inl e, ?_, q r hr⟩
    simp [frz, lsD, cls, cl, cls_ints]
end


open Sm
/-! ### fronts: made, told -/
abbrev s_finit : Stmt := (inClass (topS 23) 0)
theorem sc_finit : FnScope ["self", "lefts", "item"] ["self", "lefts"] (defScope s_finit) := ⟨rfl, rfl, rfl, by decide +kernel, rfl, by decide +kernel, by decide +kernel⟩
abbrev s_fsets : Stmt := (inClass (topS 23) 2)
theorem sc_fsets : FnScope ["self"] ["self"] (defScope s_fsets) := ⟨rfl, rfl, rfl, by decide +kernel, rfl, by decide +kernel, by decide +kernel⟩
abbrev s_fperiod : Stmt := (inClass (topS 23) 3)
theorem sc_fperiod : FnScope ["self"] ["self"] (defScope s_fperiod) := ⟨rfl, rfl, rfl, by decide +kernel, rfl, by decide +kernel, by decide +kernel⟩
def lsL (os : List LS) : List A.D := os.map lsD
def frD (os : List LS) : A.D := .obj "Front" ["own_lefts"] [.tup (lsL os)]
def frO (os : List LS) : O := .ins "Front" [("own_lefts", .tup (lsL os))]
def frF (os : List LS) : List (Str × A.D) := [("own_lefts", .tup (lsL os))]
theorem ins_fr {S : Sto} {os : List LS} : insOf S (frD os) "Front" = some (frF os) := by simp [insOf, frD, frF]
theorem f_lefts {os : List LS} : (frF os).lookup ("own_lefts" : Str) = some (.tup (lsL os)) := by simp [frF, List.lookup]
structure FSc (K : PySem.W.Frag) (cA : Str → Addr) (mg : Str → Option Value) : Prop where
  own_lefts : FldOk ⟨K, cA⟩ "Front" "own_lefts"
  gl : mg "Front" = some (.ref (cA "Front"))
/-- no items of a front: none, or one that is no set behind sets -/
def badF (S : Sto) (xs : List A.D) : Prop := xs = [] ∨ ∃ (pre : List LS) (d : A.D) (post : List A.D), xs = lsL pre ++ d :: post ∧ notLS S d ∧ insOf S d "LengthSet" = none
def spFinit : ASp := fun ds S Q E => ∃ S0 xs, ds = [.ref S0.length, .tup xs] ∧ S = S0 ++ [.ins "Front" []] ∧ ((∃ os : List LS, os ≠ [] ∧ xs = lsL os ∧ Q .non (S0 ++ [frO os])) ∨ (badF S xs ∧ E (exPl "front") S))
def spFr : ASp := fun ds S Q E => (∃ os : List LS, os ≠ [] ∧ os.length ≤ 1000 ∧ ds = lsL os ∧ Q (frD os) S) ∨ (ds.length ≤ 1000 ∧ badF (S ++ [.ins "Front" []]) ds ∧ E (exPl "front") S)
theorem cls_lsL {N : Nat} : ∀ {os : List LS}, cls N (lsL os) = true
  | [] => rfl
  | o :: os => by
    have := cls_lsL (N := N) (os := os)
    simp only [lsL, List.map_cons, cls, Bool.and_eq_true] at this ⊢
    refine ⟨?_, this⟩
    simp [lsD, cls, cl, cls_ints]
theorem frz_fr {S : Sto} {os : List LS} : frz (S ++ [frO os]) S.length (.ref S.length) = some (frD os) := by
  simp [frz, frO, frD, cls, cl, cls_lsL]
theorem mk_finit (ds : List A.D) (S : Sto) (Q : QD) (E : XQ) (h : spFr ds S Q E) : starSp 1 spFinit (.ref S.length :: ds) (S ++ [.ins "Front" []]) (fun v S' => v = .non ∧ frzQ S Q (.ref S.length) S') (frzE S E) := by
  rcases h with ⟨os, h0, h1, rfl, q⟩ | ⟨h1, hb, q⟩
  · refine ⟨[.ref S.length], lsL os, rfl, rfl, ?_, S, lsL os, rfl, rfl, .inl ⟨os, h0, rfl, rfl, S, [_], frD os, rfl, rfl, fun i o z => .inl z, frz_fr, q⟩⟩
    unfold lsL big
    rw [List.length_map]
    omega
  · refine ⟨[.ref S.length], ds, rfl, rfl, by unfold big; omega, S, ds, rfl, rfl, .inr ⟨hb, S, [_], rfl, rfl, fun i o z => .inl z, rfl, q⟩⟩
def spSets : ASp := fun ds S Q _ => opt (one1 ds) fun d => ∃ os : List LS, d = frD os ∧ Q (.tup (lsL os)) S
def spFper : ASp := fun ds S Q _ => opt (one1 ds) fun d => ∃ os : List LS, d = frD os ∧ Q (.int os.length) S
section
variable {P : Program} {w : World} {K : PySem.W.Frag} {cA : Str → Addr} {mg : Str → Option Value} {base : Heap} {f : Addr} {fd : FuncData}
theorem d_finit (D : MDg K "__init__" "Front.__init__" s_finit f fd) (T : Bn mg) (L : LSc K cA mg) (FR : FSc K cA mg) (xNoSet : XCls P K mg "NoSet" (cA "NoSet") "place") (iLS : C8.InsC K (cA "LengthSet")) (tiLS : ∀ T ∈ ["list", "tuple", "int", "NoneType", "str", "bool"], PySem.W.kitOne K (.type T) (.ref (cA "LengthSet")) = some false)
    (hbn : ∀ (us rest : List Value), us.length = ["self"].length → bindArgs fd ⟨us ++ rest, []⟩ = (newTuple rest >>= fun t => pure (([("self" : Str)]).zip us ++ [(("lefts" : Str), t)]))) : FnR P w K mg base (L2N.CX P w) 3 f (upSp ⟨K, cA⟩ (starSp 1 spFinit)) := by
  refine def_star (k := 2) (ps := ["self"]) (pv := "lefts") D.F sc_finit hbn (fun cdv A outer s H E hr => (js_cons (js_for (vs := [0, 1, 2]) (gl_name (i := 2) (by decide)) (passes_of rfl) rfl (ji_seq (jv 1)) (pg_name (i := 2) sc_finit.nd rfl (Or.inl rfl))
      (js_one (js_if (jt_not (jt_val (j_callB (call_isiC K iLS) (cs_isiC (Ts := ["list", "tuple", "int", "NoneType", "str", "bool"]) tiLS) (by rfl) T.isinstance (by decide +kernel) (ja_cons (jv 2) (ja_cons (j_gcls (by rfl) L.gl) ja_nil)))))
        (js_one (js_raise (C := "NoSet") rfl xNoSet hr (L2N.takes_of rfl rfl rfl rfl) (ja_cons j_str ja_nil)))
        js_nil)))
    (js_cons (js_if (jt_not (jt_truS (jv 1)))
      (js_one (js_raise (C := "NoSet") rfl xNoSet hr (L2N.takes_of rfl rfl rfl rfl) (ja_cons j_str ja_nil)))
      js_nil)
    (js_one (js_fld (C := "Front") FR.own_lefts (jv 0) (j_callTy (kcall_tuple_of K) cs_tuple (by rfl) T.tuple (by decide +kernel) (ja_cons (jv 1) ja_nil)) rfl))))) ?_
  rintro ds S Q E ⟨S0, xs, rfl, rfl, h⟩
  have iA : ∀ fs, insAt (S0 ++ [O.ins "Front" fs]) S0.length "Front" = some fs := fun fs => by simp [insAt]
  have iS : ∀ fs h, (S0 ++ [O.ins "Front" fs]).set S0.length (O.ins "Front" h) = S0 ++ [O.ins "Front" h] := fun fs h => by simp
  refine seq_by fun N1 hN1 => ?_
  simp_arith
  rcases h with ⟨os, h0, rfl, q⟩ | ⟨hb, q⟩
  · refine forX_by (fun r ρ S' => ∃ (t : List LS) (x : Option A.D), r = lsL t ∧ ρ = [some (.ref S0.length), some (.tup (lsL os)), x] ∧ S' = S0 ++ [.ins "Front" []]) ?_ ?_ ⟨os, _, rfl, rfl, rfl⟩
    · rintro ρ S' ⟨t, x, e, rfl, rfl⟩
      refine hN1 _ _ ?_
      clear hN1
      refine seq_by fun N1 hN1 => ?_
      have e0 : (lsL os).isEmpty = false := by
        cases os with
        | nil => exact absurd rfl h0
        | cons o os => rfl
      simp_arith [e0]
      refine hN1 _ _ ?_
      clear hN1
      simp_arith [iA, iS]
      exact q
    · rintro x r ρ S' ⟨t, y, e, rfl, rfl⟩ F hF
      cases t with
      | nil => cases e
      | cons o t =>
        obtain ⟨rfl, rfl⟩ : x = lsD o ∧ r = lsL t := by simpa [lsL] using e
        simp_arith [fIsiC, ins_ls]
        exact hF _ _ ⟨t, _, rfl, rfl, rfl⟩
  · rcases hb with rfl | ⟨pre, d, post, rfl, ⟨T0, ht, hT⟩, hi⟩
    · refine hN1 _ _ ?_
      clear hN1
      refine seq_by fun N1 hN1 => ?_
      simp_arith [List.isEmpty_nil]
      exact q
    · refine forX_by (fun r ρ S' => ∃ (t : List LS) (x : Option A.D), r = lsL t ++ d :: post ∧ ρ = [some (.ref S0.length), some (.tup (lsL pre ++ d :: post)), x] ∧ S' = S0 ++ [.ins "Front" []]) ?_ ?_ ⟨pre, _, rfl, rfl, rfl⟩
      · rintro ρ S' ⟨t, x, e, rfl, rfl⟩
        simp at e
      · rintro x r ρ S' ⟨t, y, e, rfl, rfl⟩ F hF
        cases t with
        | nil =>
          obtain ⟨rfl, rfl⟩ : x = d ∧ r = post := by simpa [lsL] using e
          simp_arith [fIsiC, hi, ht, hT]
          exact q
        | cons o t =>
          obtain ⟨rfl, rfl⟩ : x = lsD o ∧ r = lsL t ++ d :: post := by simpa [lsL] using e
          simp_arith [fIsiC, ins_ls]
          exact hF _ _ ⟨t, _, rfl, rfl, rfl⟩
theorem d_fsets (D : MDf K "sets" "Front.sets" s_fsets ["self"] f fd) (T : Bn mg) (FR : FSc K cA mg) (hm : Meth K (cA "Front") "sets" f) : Mtd P w K mg base 1 (cA "Front") "sets" (upSp ⟨K, cA⟩ spSets) := by
  refine ⟨f, FR.own_lefts.1, hm, fnR_of (def_ok (k := 0) D.F sc_fsets (fun cdv A outer s H E hr => (js_one (js_ret (j_fld (C := "Front") FR.own_lefts (jv 0) rfl)))) ?_ ?_) D.b⟩
  · intro ds S Q E h
    obtain ⟨a, rfl, _⟩ := opt_one h
    rfl
  · intro ds S Q E h
    obtain ⟨x1, rfl, os, rfl, q⟩ := opt_one h
    simp_arith [ins_fr, f_lefts]
    exact q
theorem d_fperiod {p : Addr} (D : MDf K "period" "Front.period" s_fperiod ["self"] f fd) (T : Bn mg) (FR : FSc K cA mg) (hm : PropOf K (cA "Front") "period" p f) : Prp P w K mg base 1 (cA "Front") "period" (upSp ⟨K, cA⟩ spFper) := by
  refine ⟨p, f, FR.own_lefts.1, hm, fnR_of (def_ok (k := 0) D.F sc_fperiod (fun cdv A outer s H E hr => (js_one (js_ret (j_callB (kcall_len_seq K) cs_len (by rfl) T.len (by decide +kernel) (ja_cons (j_fld (C := "Front") FR.own_lefts (jv 0) rfl) ja_nil))))) ?_ ?_) D.b⟩
  · intro ds S Q E h
    obtain ⟨a, rfl, _⟩ := opt_one h
    rfl
  · intro ds S Q E h
    obtain ⟨x1, rfl, os, rfl, q⟩ := opt_one h
    simp_arith [ins_fr, f_lefts]
    rw [show (lsL os).length = os.length from List.length_map ..]
    exact q
end


open Sm
/-! ### fronts: begun, read, asked -/
abbrev s_fread : Stmt := (inClass (topS 23) 5)
theorem sc_fread : FnScope ["self", "behind", "turned", "item"] ["self"] (defScope s_fread) := ⟨rfl, rfl, rfl, by decide +kernel, rfl, by decide +kernel, by decide +kernel⟩
abbrev s_fbool : Stmt := (inClass (topS 23) 11)
theorem sc_fbool : FnScope ["self", "item"] ["self"] (defScope s_fbool) := ⟨rfl, rfl, rfl, by decide +kernel, rfl, by decide +kernel, by decide +kernel⟩
theorem ex_none : ∃ o : LS, o.f = fun _ => false := by
  obtain ⟨s, e, _⟩ := canon_ex (f := fun _ => false) (N := 0) (P := 1) (by decide) (fun _ _ => rfl) (by decide) (by decide)
  exact ⟨s, e⟩
noncomputable def noneL : LS := Classical.choose ex_none
theorem noneL_f : noneL.f = fun _ => false := Classical.choose_spec ex_none
open Classical in
noncomputable def lsOf (f : Nat → Bool) : LS := if h : ∃ o : LS, o.f = f then Classical.choose h else noneL
theorem lsOf_ex {f : Nat → Bool} (h : ∃ o : LS, o.f = f) : (lsOf f).f = f := by
  unfold lsOf
  rw [dif_pos h]
  exact Classical.choose_spec h
theorem lsOf_f {f : Nat → Bool} (h : Sml f) : (lsOf f).f = f := by
  obtain ⟨s, e, _⟩ := canon_ex (P := 12) (by decide) h (by decide) (by decide)
  exact lsOf_ex ⟨s, e⟩
theorem ls_eq {f : Nat → Bool} {r : LS} (h : r.f = f) : r = lsOf f := LS.ext (h.trans (lsOf_ex ⟨r, h⟩).symm)
theorem lc_ls {g : AG} {te : AM A.D} {ρ : Ev} {Q : List A.D → Sto → Prop} {S : Sto} {os : List LS} (r : LS → A.D) (hl : os.length ≤ 1000000)
    (h : ∀ o ∈ os, ∀ (Y : A.D → Sto → Prop) (F : Sto → Prop), Y (r o) S → g (lsD o) ρ fun ρ2 => aYes ρ2 S (fun b S3 => if b = true then te ρ2 S3 Y (fun _ _ => False) else F S3) fun _ _ => False)
    (q : Q (os.map r) S) : lcX g aYes te ρ Q (lsL os) [] S := by
  refine lcX_by (fun l acc S' => ∃ t : List LS, l = lsL t ∧ S' = S ∧ (∀ o ∈ t, o ∈ os) ∧ acc.length + t.length ≤ os.length ∧ Q (acc ++ t.map r) S) ?_ ?_ ⟨os, rfl, rfl, fun _ h => h, by simp, by simpa using q⟩
  · rintro acc S' ⟨t, e, rfl, _, _, q⟩
    cases t with
    | nil => simpa using q
    | cons o t => cases e
  · rintro x l acc S' ⟨t, e, rfl, ht, hl2, q⟩ F hF
    cases t with
    | nil => cases e
    | cons o t =>
      obtain ⟨rfl, rfl⟩ : x = lsD o ∧ l = lsL t := by simpa [lsL] using e
      simp only [List.length_cons] at hl2
      exact h o (ht o (by simp)) _ _ ⟨by unfold big; omega, hF _ _ ⟨t, rfl, rfl, fun z hz => ht z (by simp [hz]), by simp; omega, by simpa using q⟩⟩
def spBegin : ASp := fun ds S Q _ => opt (two2 ds) fun q => ∃ (o : LS) (p : Nat), q = (lsD o, .int p) ∧ 1 ≤ p ∧ p ≤ 100 ∧ Q (frD (o :: List.replicate (p - 1) noneL)) S
def spFall : ASp := fun ds S Q _ => opt (one1 ds) fun d => ∃ os : List LS, d = frD os ∧ (∀ o ∈ os, Sml o.f) ∧ ∀ r : LS, r.f = (fun n => os.any fun o => o.f n) → Q (lsD r) S
def rotL {α : Type} (l : List α) : List α := l.drop (l.length - 1) ++ l.take (l.length - 1)
def spFread : ASp := fun ds S Q _ => opt (one1 ds) fun d => ∃ os : List LS, d = frD os ∧ os ≠ [] ∧ os.length ≤ 1000 ∧ Q (frD (rotL (os.map fun o => lsOf fun n => o.f (n + 1)))) S
def spFcont : ASp := fun ds S Q _ => opt (two2 ds) fun q => ∃ (os : List LS) (n : Nat), q = (frD os, .int n) ∧ os.length ≤ 1000 ∧ Q (.bl (os.any fun o => o.f n)) S
def spFbool : ASp := fun ds S Q _ => opt (one1 ds) fun d => ∃ os : List LS, d = frD os ∧ os.length ≤ 1000 ∧ ∀ b : Bool, (b = true ↔ ∃ o ∈ os, ∃ n, o.f n = true) → Q (.bl b) S
section
variable {P : Program} {w : World} {K : PySem.W.Frag} {cA : Str → Addr} {mg : Str → Option Value} {base : Heap} {f : Addr} {fd : FuncData}
theorem d_fread (D : MDf K "read" "Front.read" s_fread ["self"] f fd) (T : Bn mg) (L : LSc K cA mg) (FR : FSc K cA mg) (hSub : Own P w K mg base 8 (cA "LengthSet") "__sub__" (upSp ⟨K, cA⟩ spSubL)) (sfLS : PySem.W.selfFirst K (cA "LengthSet") = true) (riSub : RtI K (cA "LengthSet") "sub")
    (mFr : MkF P w K mg base ⟨K, cA⟩ 3 "Front" "Front" spFr) (hm : Meth K (cA "Front") "read" f) : Mtd P w K mg base 10 (cA "Front") "read" (upSp ⟨K, cA⟩ spFread) := by
  refine ⟨f, FR.own_lefts.1, hm, fnR_of (def_ok (k := 9) D.F sc_fread (fun cdv A outer s H E hr => (js_cons (js_setLc (i := 1) (own := [("item", 3)]) (tt := aYes) (by rfl) sc_fread.nd rfl rfl (sw_true rfl rfl rfl (by decide +kernel)) (gl_name (i := 3) (by decide)) (ji_seq (j_fld (C := "Front") FR.own_lefts (jv 0) rfl)) (blkOk_by (own := [("item", 3)]) (N := ["self", "behind", "turned", "item"]) (sc := defScope s_fread) (by decide +kernel)) (fun _ _ _ _ _ => (pg_name (i := 3) sc_fread.nd rfl (Or.inl rfl))) (fun _ _ _ _ _ => jts_nil) (fun _ _ _ _ _ => (j_binI (C := "LengthSet") hSub sfLS riSub hr (by omega) (passN rfl rfl) (jv 3) j_int)))
    (js_cons (js_set (i := 2) sc_fread.nd rfl (Or.inl rfl) (j_op (op_addA K) os_add (j_sl (jv 1) (jo_some (j_neg j_int)) jo_none) (j_sl (jv 1) jo_none (jo_some (j_neg j_int)))))
    (js_one (js_ret (j_nwFL (C := "Front") mFr hr (by omega) rfl (L2N.passAt (L2N.takes_of rfl rfl rfl rfl)) (jv 2))))))) ?_ ?_) D.b⟩
  · intro ds S Q E h
    obtain ⟨a, rfl, _⟩ := opt_one h
    rfl
  · intro ds S Q E h
    obtain ⟨x1, rfl, os, rfl, h0, h1, q⟩ := opt_one h
    refine seq_by fun N1 hN1 => ?_
    simp_arith [ins_fr, f_lefts]
    refine lc_ls (fun o => lsD (lsOf fun n => o.f (n + 1))) (by omega) (fun o _ Y F hY => ?_) ?_
    · simp_arith [aBinI, ins_ls]
      refine ⟨.inr ⟨_, rfl⟩, sub_by (k := 1) fun r hr => ?_⟩
      rw [ls_eq hr]
      exact hY
    · have e2 : os.map (fun o => lsD (lsOf fun n => o.f (n + 1))) = lsL (os.map fun o => lsOf fun n => o.f (n + 1)) := by
        unfold lsL
        rw [List.map_map]
        rfl
      rw [e2]
      obtain ⟨os2, ho2⟩ : ∃ os2, os2 = os.map fun o => lsOf fun n => o.f (n + 1) := ⟨_, rfl⟩
      have l2 : os2.length = os.length := by rw [ho2, List.length_map]
      rw [← ho2] at q ⊢
      refine hN1 _ _ ?_
      clear hN1
      have p0 : os.length ≠ 0 := fun z => h0 (List.length_eq_zero_iff.mp z)
      have ll : (lsL os2).length = os2.length := by simp [lsL]
      have c1 : cutD (lsL os2) (some (-1)) none = lsL (os2.drop (os2.length - 1)) := by
        unfold cutD
        rw [ll]
        have s1 : HT.sIx os2.length 0 (some (-1)) = os2.length - 1 := by
          show (if (-1 : Int) < 0 then ((-1 : Int) + (os2.length : Int)).toNat else min (-1 : Int).toNat os2.length) = os2.length - 1
          rw [if_pos (by decide)]
          omega
        rw [s1, HT.sIx_none]
        unfold lsL
        rw [← List.map_drop, ← List.map_take]
        congr 1
        refine List.take_of_length_le ?_
        rw [List.length_drop]
        exact Nat.le_refl _
      have c2 : cutD (lsL os2) none (some (-1)) = lsL (os2.take (os2.length - 1)) := by
        unfold cutD
        rw [ll]
        have s1 : HT.sIx os2.length os2.length (some (-1)) = os2.length - 1 := by
          show (if (-1 : Int) < 0 then ((-1 : Int) + (os2.length : Int)).toNat else min (-1 : Int).toNat os2.length) = os2.length - 1
          rw [if_pos (by decide)]
          omega
        rw [s1, HT.sIx_none]
        unfold lsL
        rw [List.drop_zero, Nat.sub_zero, List.map_take]
      have c3 : lsL (os2.drop (os2.length - 1)) ++ lsL (os2.take (os2.length - 1)) = lsL (rotL os2) := by
        unfold lsL rotL
        rw [List.map_append]
      have l3 : (rotL os2).length = os2.length := by
        unfold rotL
        rw [List.length_append, List.length_drop, List.length_take]
        omega
      refine seq_by fun N1 hN1 => ?_
      simp_arith [c1, c2, c3]
      refine ⟨?_, hN1 _ _ ?_⟩
      · have a1 : (lsL (os2.drop (os2.length - 1))).length ≤ os2.length := by simp only [lsL, List.length_map, List.length_drop]; omega
        have a2 : (lsL (os2.take (os2.length - 1))).length ≤ os2.length := by simp only [lsL, List.length_map, List.length_take]; omega
        unfold big
        omega
      clear hN1
      simp_arith
      refine .inl ⟨rotL os2, fun z => ?_, by omega, rfl, q⟩
      rw [z] at l3
      simp at l3
      omega
theorem d_fbool (D : MDf K "__bool__" "Front.__bool__" s_fbool ["self"] f fd) (T : Bn mg) (L : LSc K cA mg) (FR : FSc K cA mg) (hBool : Own P w K mg base 1 (cA "LengthSet") "__bool__" (upSp ⟨K, cA⟩ spBoolL))
    (hf : PySem.W.findIn K (.ref (cA "Front")) "__bool__" = some (some (.ref f))) (hi : PySem.W.isFn K (.ref f) = true) : Own P w K mg base 5 (cA "Front") "__bool__" (upSp ⟨K, cA⟩ spFbool) := by
  refine ⟨f, hf, hi, fnR_of (def_ok (k := 4) D.F sc_fbool (fun cdv A outer s H E hr => (js_one (js_ret (j_callB (cr_any rfl) cs_any (by rfl) T.any (by decide +kernel) (ja_cons (j_lc (own := [("item", 1)]) (tt := aYes) (by rfl) sc_fbool.nd (gl_name (i := 1) (by decide)) (ji_seq (j_fld (C := "Front") FR.own_lefts (jv 0) rfl)) (blkOk_by (own := [("item", 1)]) (N := ["self", "item"]) (sc := defScope s_fbool) (by decide +kernel)) (fun _ _ _ _ _ => (pg_name (i := 1) sc_fbool.nd rfl (Or.inl rfl))) (fun _ _ _ _ _ => jts_nil) (fun _ _ _ _ _ => (j_callTy (call_boolO hBool hr (by omega)) cs_boolO (by rfl) T.bool (by decide +kernel) (ja_cons (jv 1) ja_nil)))) ja_nil))))) ?_ ?_) D.b⟩
  · intro ds S Q E h
    obtain ⟨a, rfl, _⟩ := opt_one h
    rfl
  · intro ds S Q E h
    obtain ⟨x1, rfl, os, rfl, h1, q⟩ := opt_one h
    simp_arith [ins_fr, f_lefts]
    have dc : ∀ o : LS, Decidable (∃ n, o.f n = true) := fun o => Classical.propDecidable _
    refine lc_ls (fun o => .bl (decide (∃ n, o.f n = true))) (by omega) (fun o _ Y F hY => ?_) ?_
    · simp_arith [fBoolO, ins_ls, spBoolL]
      refine ⟨o, rfl, fun b hb => ?_⟩
      try simp_arith
      have e : b = decide (∃ n, o.f n = true) := by rw [Bool.eq_iff_iff, hb, decide_eq_true_eq]
      rw [e]
      exact hY
    · have e7 : os.map (fun o => A.D.bl (decide (∃ n, o.f n = true))) = (os.map fun o => decide (∃ n, o.f n = true)).map A.D.bl := by
        rw [List.map_map]
        rfl
      rw [e7]
      simp_arith [bools_map]
      refine q _ ?_
      rw [List.any_eq_true]
      simp only [List.mem_map, id_eq]
      constructor
      · rintro ⟨b, ⟨o, ho, rfl⟩, hb⟩
        exact ⟨o, ho, of_decide_eq_true hb⟩
      · rintro ⟨o, ho, hn⟩
        exact ⟨_, ⟨o, ho, rfl⟩, decide_eq_true hn⟩
end


open Sm
/-! ### fronts: passed -/
abbrev s_fpassed : Stmt := (inClass (topS 23) 6)
theorem sc_fpassed : FnScope ["self", "lengths", "period", "found", "rest", "some", "at", "to"] ["self", "lengths"] (defScope s_fpassed) := ⟨rfl, rfl, rfl, by decide +kernel, rfl, by decide +kernel, by decide +kernel⟩
theorem Sml.orc {f g : Nat → Bool} (hf : Sml f) (hg : Sml g) : Sml fun n => f n || g n := Sml.zip (fun a b => a || b) hf hg
theorem Sml.andc {f : Nat → Bool} (c : Bool) (hf : Sml f) : Sml fun n => c && f n := fun n hn => by
  show (c && f (n + 12)) = (c && f n)
  rw [hf n hn]
theorem Sml.andf {f g : Nat → Bool} (hf : Sml f) (hg : Sml g) : Sml fun n => f n && g n := Sml.zip (fun a b => a && b) hf hg
theorem sml_any {α : Type} {h : α → Nat → Bool} : ∀ {l : List α}, (∀ x ∈ l, Sml (h x)) → Sml fun n => l.any fun x => h x n
  | [], _ => fun _ _ => rfl
  | x :: l, hl => by
    have := Sml.orc (hl x (by simp)) (sml_any (l := l) fun y hy => hl y (by simp [hy]))
    simpa using this
theorem sml_res {p r : Nat} (hp : 12 % p = 0) : Sml fun n => decide (n % p = r) := fun n _ => by
  show decide ((n + 12) % p = r) = decide (n % p = r)
  rw [Nat.add_mod, hp, Nat.add_zero, Nat.mod_mod]
/-- the lengths of g whose rest is r -/
def resG (g : Nat → Bool) (p r : Nat) : Nat → Bool := fun m => g m && decide (m % p = r)
theorem sml_resG {g : Nat → Bool} {p r : Nat} (hp : 12 % p = 0) (hg : Sml g) : Sml (resG g p r) := Sml.andf hg (sml_res hp)
noncomputable def stepF (os : List LS) (g : Nat → Bool) (p r a to : Nat) : Nat → Bool := fun n => decide ((a + r) % p = to) && goneF (os.getD a noneL).f (resG g p r) n
noncomputable def passB (os : List LS) (g : Nat → Bool) (p r k to : Nat) : Nat → Bool := fun n => (List.range k).any fun a => stepF os g p r a to n
noncomputable def passA (os : List LS) (g : Nat → Bool) (p k to : Nat) : Nat → Bool := fun n => (List.range k).any fun r => passB os g p r p to n
theorem sml_goneF {f g : Nat → Bool} (hf : Sml f) : Sml (goneF f g) := goneF_per hf
theorem sml_none : Sml noneL.f := by
  rw [noneL_f]
  exact fun _ _ => rfl
theorem sml_getD {os : List LS} (h : ∀ o ∈ os, Sml o.f) (a : Nat) : Sml (os.getD a noneL).f := by
  rw [List.getD_eq_getElem?_getD]
  cases e : os[a]? with
  | none => exact sml_none
  | some o => exact h o (List.mem_of_getElem? e)
theorem sml_step {os : List LS} {g : Nat → Bool} {p r a to : Nat} (h : ∀ o ∈ os, Sml o.f) : Sml (stepF os g p r a to) := Sml.andc _ (sml_goneF (sml_getD h a))
theorem sml_passB {os : List LS} {g : Nat → Bool} {p r k to : Nat} (h : ∀ o ∈ os, Sml o.f) : Sml (passB os g p r k to) := sml_any fun _ _ => sml_step h
theorem sml_passA {os : List LS} {g : Nat → Bool} {p k to : Nat} (h : ∀ o ∈ os, Sml o.f) : Sml (passA os g p k to) := sml_any fun _ _ => sml_passB h
noncomputable def rowL (p : Nat) (F : Nat → Nat → Bool) : List A.D := (List.range p).map fun to => lsD (lsOf (F to))
theorem rowL_at {p to : Nat} {F : Nat → Nat → Bool} (h : to < p) : atI (rowL p F) (to : Int) = some (lsD (lsOf (F to))) := atD (by simp [rowL, h])
theorem rowL_len {p : Nat} {F : Nat → Nat → Bool} : (rowL p F).length = p := by simp [rowL]
theorem rowL_ext {p : Nat} {F G : Nat → Nat → Bool} (h : ∀ j, j < p → F j = G j) : rowL p F = rowL p G := List.map_congr_left fun j hj => by rw [h j (List.mem_range.mp hj)]
theorem rowL_set {p to : Nat} {F : Nat → Nat → Bool} {v : Nat → Bool} : (rowL p F).set to (lsD (lsOf v)) = rowL p fun j => if j = to then v else F j := by
  refine List.ext_getElem? fun j => ?_
  rw [List.getElem?_set]
  by_cases hj : j < p
  · by_cases e : to = j
    · subst e
      simp [rowL, hj]
    · rw [if_neg e]
      simp [rowL, hj, show ¬ j = to from fun z => e z.symm]
  · by_cases e : to = j
    · subst e
      simp [rowL, hj]
    · rw [if_neg e]
      simp [rowL, hj]
theorem rowL_ls {p : Nat} {F : Nat → Nat → Bool} : rowL p F = lsL ((List.range p).map fun to => lsOf (F to)) := by
  unfold rowL lsL
  rw [List.map_map]
  rfl
theorem mtd_cut2 {P : Program} {w : World} {K : PySem.W.Frag} {mg : Str → Option Value} {base : Heap} {k : Nat} {C : Addr} {m : Str} {c : Cg} {sp sp' : ASp} (F : Mtd P w K mg base k C m (upSp c sp)) (h : ∀ ds S Q E, sp' ds S Q E → cutSp2 sp ds S Q E) : Mtd P w K mg base k C m (upSp c sp') := by
  obtain ⟨f, a, b, G⟩ := F.ex
  exact ⟨f, a, b, G.imp fun vs H Q E z => cutSp2_up vs H Q E (by
    obtain ⟨w, S, ds, Q', E', x1, x2, x3, x4⟩ := z
    exact ⟨w, S, ds, Q', E', x1, x2, h _ _ _ _ x3, x4⟩)⟩
theorem right_res {p r : Nat} (h0 : 0 < p) (h1 : p ≤ 5000) (hr : r < p) : wrongSet (.tup []) (.int 0) (.int (p : Int)) (.tup [.int (r : Int)]) = none := by
  unfold wrongSet
  have e1 : isAsc (numI (.int 0)) (.tup []) = true := rfl
  have e2 : isAsc (numI (.int (p : Int))) (.tup [.int (r : Int)]) = true := by
    show (decide (0 ≤ (r : Int)) && (decide ((-1 : Int) < (r : Int)) && (decide ((r : Int) < (p : Int)) && true))) = true
    rw [decide_eq_true (show 0 ≤ (r : Int) by omega), decide_eq_true (show (-1 : Int) < (r : Int) by omega), decide_eq_true (show (r : Int) < (p : Int) by omega)]
    rfl
  have n2 : isCnt (.int (p : Int)) = true := by simp [isCnt]
  rw [if_neg (by decide), if_neg (by simp only [numI]; omega), if_neg (by rw [n2]; simp only [numI]; rintro (z | z); cases z; omega), if_neg (by simp only [numI]; omega), e1, e2]
  rfl
theorem setF_res {p r : Nat} : setF (.tup []) (.int 0) (.int (p : Int)) (.tup [.int (r : Int)]) = fun n => decide (n % p = r) := by
  funext n
  simp only [setF, hasN, numsD, sqOf, numI]
  simp
  show (n : Int) % (p : Int) = (r : Int) ↔ n % p = r
  rw [← Int.natCast_emod]
  exact Int.ofNat_inj
theorem passA_succ {os : List LS} {g : Nat → Bool} {p r to n : Nat} : passA os g p (r + 1) to n = (passA os g p r to n || passB os g p r p to n) := by
  unfold passA
  rw [List.range_succ, List.any_append]
  simp
theorem passB_succ {os : List LS} {g : Nat → Bool} {p r k to n : Nat} : passB os g p r (k + 1) to n = (passB os g p r k to n || stepF os g p r k to n) := by
  unfold passB
  rw [List.range_succ, List.any_append]
  simp
theorem passB_none {os : List LS} {g : Nat → Bool} {p r k to n : Nat} (h : ∀ m, resG g p r m = false) : passB os g p r k to n = false := by
  unfold passB
  rw [List.any_eq_false]
  intro a _
  unfold stepF goneF
  simp [h]
noncomputable def passC (os : List LS) (g : Nat → Bool) (p r k to : Nat) : Nat → Bool := fun n => passA os g p r to n || passB os g p r k to n
def spPassed : ASp := fun ds S Q _ => opt (two2 ds) fun q => ∃ (os : List LS) (o : LS), q = (frD os, lsD o) ∧ os ≠ [] ∧ 12 % os.length = 0 ∧ (∀ z ∈ os, Sml z.f) ∧ Sml o.f ∧ Q (frD ((List.range os.length).map fun to => lsOf (passA os o.f os.length os.length to))) S
theorem frz_frD {S : Sto} {N : Nat} {os : List LS} : frz S N (frD os) = some (frD os) := by
  simp [frz, frD, cls, cl, cls_lsL]
section
variable {P : Program} {w : World} {K : PySem.W.Frag} {cA : Str → Addr} {mg : Str → Option Value} {base : Heap} {f : Addr} {fd : FuncData}
theorem d_fpassed (D : MDf K "passed" "Front.passed" s_fpassed ["self", "lengths"] f fd) (T : Bn mg) (L : LSc K cA mg) (FR : FSc K cA mg) (sNone : StM P w K mg base 6 (cA "LengthSet") "none" (upSp ⟨K, cA⟩ spNone)) (hOr : Own P w K mg base 8 (cA "LengthSet") "__or__" (upSp ⟨K, cA⟩ (spBin "or")))
    (hAnd : Own P w K mg base 8 (cA "LengthSet") "__and__" (upSp ⟨K, cA⟩ (spBin "and"))) (hBool : Own P w K mg base 1 (cA "LengthSet") "__bool__" (upSp ⟨K, cA⟩ spBoolL)) (sfLS : PySem.W.selfFirst K (cA "LengthSet") = true) (mFr : MkF P w K mg base ⟨K, cA⟩ 3 "Front" "Front" spFr) (mLS : MkF P w K mg base ⟨K, cA⟩ 4 "LengthSet" "LengthSet" spMk)
    (cGo : Fnc P w K mg base 7 "gone" (upSp ⟨K, cA⟩ spGone)) (hm : Meth K (cA "Front") "passed" f) : Mtd P w K mg base 10 (cA "Front") "passed" (upSp ⟨K, cA⟩ spPassed) := by
  refine mtd_cut2 (sp := fun ds S Q E => spPassed ds S (fun d S' => ∀ l, Q d (S' ++ [.lst l])) E) ⟨f, FR.own_lefts.1, hm, fnR_of (def_ok (k := 9) D.F sc_fpassed (fun cdv A outer s H E hr => (js_cons (js_set (i := 2) sc_fpassed.nd rfl (Or.inl rfl) (j_callB (kcall_len_seq K) cs_len (by rfl) T.len (by decide +kernel) (ja_cons (j_fld (C := "Front") FR.own_lefts (jv 0) rfl) ja_nil)))
    (js_cons (js_setLcM (i := 3) (own := [("rest", 4)]) (tt := aYes) (by rfl) sc_fpassed.nd rfl rfl (sw_true rfl rfl rfl (by decide +kernel)) (gl_name (i := 4) (by decide)) (ji_range1 rfl T.range (ja_cons (jv 2) ja_nil)) (blkOk_by (own := [("rest", 4)]) (N := ["self", "lengths", "period", "found", "rest", "some", "at", "to"]) (sc := defScope s_fpassed) (by decide +kernel)) (fun _ _ _ _ _ => (pg_name (i := 4) sc_fpassed.nd rfl (Or.inl rfl))) (fun _ _ _ _ _ => jts_nil) (fun _ _ _ _ _ => (j_sm0 (C := "LengthSet") sNone hr (by omega) (passN rfl rfl) (j_gcls (by rfl) L.gl))))
    (js_cons (js_for (vs := [0, 1, 2, 3, 4, 5, 6, 7]) (gl_name (i := 4) (by decide)) (passes_of rfl) rfl (ji_range1 rfl T.range (ja_cons (jv 2) ja_nil)) (pg_name (i := 4) sc_fpassed.nd rfl (Or.inl rfl))
      (js_cons (js_set (i := 5) sc_fpassed.nd rfl (Or.inl rfl) (j_binO (C := "LengthSet") hAnd sfLS hr (by omega) (L2N.passAt (L2N.takes_of rfl rfl rfl rfl)) (jv 1) (j_nwF (C := "LengthSet") mLS hr (by omega) rfl (L2N.passAt (L2N.takes_of rfl rfl rfl rfl)) (ja_cons (j_tup ja_nil) (ja_cons j_int (ja_cons (jv 2) (ja_cons (j_tup (ja_cons (jv 4) ja_nil)) ja_nil)))))))
      (js_one (js_if (jt_truO (C := "LengthSet") hBool hr (by omega) (jv 5))
        (js_one (js_for (vs := [0, 1, 2, 3, 4, 5, 6, 7]) (gl_name (i := 6) (by decide)) (passes_of rfl) rfl (ji_range1 rfl T.range (ja_cons (jv 2) ja_nil)) (pg_name (i := 6) sc_fpassed.nd rfl (Or.inl rfl))
          (js_cons (js_set (i := 7) sc_fpassed.nd rfl (Or.inl rfl) (j_op op_mod os_mod (j_op (op_addA K) os_add (jv 6) (jv 4)) (jv 2)))
          (js_one (js_putL (jv 3) (jv 7) (j_binO (C := "LengthSet") hOr sfLS hr (by omega) (L2N.passAt (L2N.takes_of rfl rfl rfl rfl)) (j_ix (kix_lt K) os_ix (jv 3) (jv 7) (fun _ _ => rfl)) (j_fc cGo hr (by omega) rfl (L2N.passAt (L2N.takes_of rfl rfl rfl rfl)) (ja_cons (j_ix (kix_lt K) os_ix (j_fld (C := "Front") FR.own_lefts (jv 0) rfl) (jv 6) (fun _ _ => rfl)) (ja_cons (jv 5) ja_nil)))))))))
        js_nil))))
    (js_one (js_ret (j_nwFL (C := "Front") mFr hr (by omega) rfl (L2N.passAt (L2N.takes_of rfl rfl rfl rfl)) (jv 3)))))))) ?_ ?_) D.b⟩ ?_
  · intro ds S Q E h
    obtain ⟨a, b, rfl, _⟩ := opt_two h
    rfl
  · intro ds S Q E h
    obtain ⟨x1, x2, rfl, os, o, eq, h0, hp, hs, ho, q⟩ := opt_two h
    clear h
    cases eq
    have p0 : 0 < os.length := Nat.pos_of_ne_zero fun z => h0 (List.length_eq_zero_iff.mp z)
    have p1 : os.length ≤ 12 := Nat.le_of_dvd (by decide) (Nat.dvd_of_mod_eq_zero hp)
    have ll : (lsL os).length = os.length := by simp [lsL]
    have stA : ∀ l, lstAt (S ++ [O.lst l]) S.length = some l := fun l => lstAt_of (by simp)
    have stS : ∀ l l', (S ++ [O.lst l]).set S.length (O.lst l') = S ++ [O.lst l'] := fun l l' => by simp
    refine seq_by fun N1 hN1 => ?_
    simp_arith [ins_fr, f_lefts, ll]
    refine hN1 _ _ ?_
    clear hN1
    refine seq_by fun N1 hN1 => ?_
    simp_arith
    refine ⟨⟨by omega, by omega⟩, ?_⟩
    rw [Int.toNat_natCast]
    refine lc_rng (fun _ => true) (fun _ => lsD noneL) (by omega) (fun i hi Y F hY _ => ?_) ?_
    · simp_arith [spNone]
      intro o2 ho2
      rw [LS.ext (ho2.trans noneL_f.symm)]
      exact hY rfl
    have e2 : List.map (fun _ => lsD noneL) (List.filter (fun _ => true) (List.range os.length)) = rowL os.length (passA os o.f os.length 0) := by
      rw [List.filter_eq_self.mpr fun _ _ => rfl]
      refine List.map_congr_left fun j _ => ?_
      rw [← ls_eq (r := noneL) (f := passA os o.f os.length 0 j) (by rw [noneL_f]; rfl)]
    rw [e2]
    try simp_arith
    refine hN1 _ _ ?_
    clear hN1
    refine seq_by fun N1 hN1 => ?_
    simp_arith
    refine ⟨⟨by omega, by omega⟩, ?_⟩
    rw [Int.toNat_natCast]
    refine for_rngI (fun r ρ S' => (∃ a b c d, ρ = [some (frD os), some (lsD o), some (A.D.int os.length), some (A.D.ref S.length), a, b, c, d]) ∧ S' = S ++ [.lst (rowL os.length (passA os o.f os.length r))]) ?_ ?_ ⟨⟨_, _, _, _, rfl⟩, rfl⟩
    · rintro ρ S' ⟨⟨a, b, c, d, rfl⟩, rfl⟩
      refine hN1 _ _ ?_
      clear hN1
      simp_arith [stA]
      rw [rowL_ls]
      refine .inl ⟨_, fun z => ?_, by rw [List.length_map, List.length_range]; omega, rfl, q _⟩
      have := congrArg List.length z
      rw [List.length_map, List.length_range] at this
      exact absurd this (by simp; omega)
    · rintro r ρ S' hr ⟨⟨a, b, c, d, rfl⟩, rfl⟩ F hF
      refine seq_by fun N2 hN2 => ?_
      simp_arith [aBinO, ins_ls]
      refine mk_by rfl (right_res p0 (by omega) hr) fun o3 ho3 => ?_
      have h3 : Sml o3.f := by
        rw [ho3, setF_res]
        exact sml_res hp
      refine ⟨⟨_, ins_ls⟩, bin_by ho h3 fun o4 ho4 => ?_⟩
      have e4 : o4.f = resG o.f os.length r := by
        rw [ho4, ho3, setF_res]
        funext n
        rw [jop_and]
        rfl
      have h4 : Sml o4.f := by
        rw [e4]
        exact sml_resG hp ho
      refine hN2 _ _ ?_
      clear hN2
      simp_arith [aTruO, ins_ls, spBoolL]
      refine ⟨o4, rfl, fun b2 hb => ?_⟩
      try simp_arith
      cases b2 with
      | false =>
        rw [if_neg (by decide)]
        refine hF _ _ ⟨⟨_, _, _, _, rfl⟩, ?_⟩
        have hz : ∀ m, resG o.f os.length r m = false := fun m => by
          rw [← e4]
          cases z : o4.f m with
          | false => rfl
          | true => exact absurd (hb.mpr ⟨m, z⟩) (by decide)
        rw [rowL_ext fun j _ => funext fun n => show passA os o.f os.length (r + 1) j n = passA os o.f os.length r j n by rw [passA_succ, passB_none hz, Bool.or_false]]
      | true =>
        rw [if_pos rfl]
        try simp_arith
        refine ⟨⟨by omega, by omega⟩, ?_⟩
        rw [Int.toNat_natCast]
        refine for_rngI (fun k ρ S' => (∃ c d, ρ = [some (frD os), some (lsD o), some (A.D.int os.length), some (A.D.ref S.length), some (A.D.int r), some (lsD o4), c, d]) ∧ S' = S ++ [.lst (rowL os.length (passC os o.f os.length r k))]) ?_ ?_ ⟨⟨_, _, rfl⟩, ?_⟩
        · rintro ρ S' ⟨⟨c, d, rfl⟩, rfl⟩
          refine hF _ _ ⟨⟨_, _, _, _, rfl⟩, ?_⟩
          rw [rowL_ext fun j _ => funext fun n => passA_succ]
          rfl
        · rintro k ρ S' hk ⟨⟨c, d, rfl⟩, rfl⟩ F2 hF2
          refine seq_by fun N2 hN2 => ?_
          have em : ((k : Int) + (r : Int)) % (os.length : Int) = (((k + r) % os.length : Nat) : Int) := by
            rw [Int.natCast_emod, Int.natCast_add]
          simp_arith [em]
          refine ⟨by omega, hN2 _ _ ?_⟩
          clear hN2
          have hto : (k + r) % os.length < os.length := Nat.mod_lt _ p0
          have ak : atI (lsL os) (k : Int) = some (lsD (os.getD k noneL)) := atD (by simp [lsL, List.getD, hk])
          simp_arith [aBinO, ins_ls, stA, rowL_at hto, ins_fr, f_lefts, ak]
          refine ⟨_, _, rfl, sml_getD hs k, h4, fun o5 ho5 => ⟨⟨_, ins_ls⟩, ?_⟩⟩
          have hc : Sml (passC os o.f os.length r k ((k + r) % os.length)) := Sml.orc (sml_passA hs) (sml_passB hs)
          have h5 : Sml o5.f := by
            rw [ho5]
            exact sml_goneF (sml_getD hs k)
          refine bin_by (by rw [lsOf_f hc]; exact hc) h5 fun o6 ho6 => ?_
          have ix : ixN (rowL os.length (passC os o.f os.length r k)).length (((k + r) % os.length : Nat) : Int) = some ((k + r) % os.length) := by
            rw [rowL_len]
            unfold ixN
            rw [if_pos (by omega), if_pos (by omega), Int.toNat_natCast]
          simp_arith [stA, ix, stS]
          refine hF2 _ _ ⟨⟨_, _, rfl⟩, ?_⟩
          have e6 : o6 = lsOf (passC os o.f os.length r (k + 1) ((k + r) % os.length)) := by
            refine ls_eq (ho6.trans (funext fun n => ?_))
            rw [jop_or, lsOf_f hc, ho5, e4]
            unfold passC
            rw [passB_succ]
            unfold stepF
            rw [decide_eq_true rfl, Bool.true_and, Bool.or_assoc]
          rw [e6, rowL_set]
          rw [rowL_ext fun j _ => show (if j = (k + r) % os.length then passC os o.f os.length r (k + 1) ((k + r) % os.length) else passC os o.f os.length r k j) = passC os o.f os.length r (k + 1) j by
            by_cases c : j = (k + r) % os.length
            · rw [if_pos c, c]
            · rw [if_neg c]
              funext n
              unfold passC
              rw [passB_succ]
              unfold stepF
              rw [decide_eq_false fun z => c z.symm, Bool.false_and, Bool.or_false]]
        · rw [rowL_ext fun j _ => funext fun n => show passC os o.f os.length r 0 j n = passA os o.f os.length r j n by unfold passC passB; simp]
  · intro ds S Q E h
    obtain ⟨x1, x2, rfl, os, o, eq, h0, hp, hs, ho, q⟩ := opt_two h
    exact ⟨os, o, eq, h0, hp, hs, ho, fun l => ⟨S, [_], _, rfl, rfl, fun i o e => .inl e, frz_frD, q⟩⟩
end


open Sm
/-! ### the law's own: members, made, fronts, rows -/
abbrev s_lmade : Stmt := (topS 30)
theorem sc_lmade : FnScope ["fields"] ["fields"] (defScope s_lmade) := ⟨rfl, rfl, rfl, by decide +kernel, rfl, by decide +kernel, by decide +kernel⟩
abbrev s_lfront : Stmt := (topS 31)
theorem sc_lfront : FnScope ["sets"] ["sets"] (defScope s_lfront) := ⟨rfl, rfl, rfl, by decide +kernel, rfl, by decide +kernel, by decide +kernel⟩
def spMade2 : ASp := fun ds S Q _ => opt (one1 ds) fun d => ∃ (a p : Nat) (u v : Nat → Bool), d = fdD a p u v ∧ a ≤ 5 ∧ 1 ≤ p ∧ p ≤ 4 ∧ ∀ o : LS, o.f = fdF a p u v → o.first ≤ a → p % o.size = 0 → Q (lsD o) S
def spMembers2 : ASp := fun ds S Q _ => opt (two2 ds) fun q => ∃ (o : LS) (n : Nat), q = (lsD o, .int n) ∧ n ≤ 100 ∧ Q (.lst (fltD o.f n)) S
def spLfront : ASp := fun ds S Q _ => opt (one1 ds) fun d => ∃ os : List LS, d = .lst (lsL os) ∧ (os.length = 1 ∨ os.length = 2 ∨ os.length = 3) ∧ Q (frD os) S
def rowsD (os : List LS) (n : Nat) : A.D := .lst (os.map fun o => .lst (fltD o.f n))
def spLrows : ASp := fun ds S Q _ => opt (two2 ds) fun q => ∃ (os : List LS) (n : Nat), q = (frD os, .int n) ∧ os.length ≤ 100 ∧ n ≤ 100 ∧ Q (rowsD os n) S
theorem len2 {α : Type} {l : List α} (h : l.length = 2) : ∃ a b, l = [a, b] := by
  match l, h with
  | [a, b], _ => exact ⟨a, b, rfl⟩
theorem len3 {α : Type} {l : List α} (h : l.length = 3) : ∃ a b c, l = [a, b, c] := by
  match l, h with
  | [a, b, c], _ => exact ⟨a, b, c, rfl⟩
section
variable {P : Program} {w : World} {K : PySem.W.Frag} {cA : Str → Addr} {mg : Str → Option Value} {base : Heap} {f : Addr} {fd : FuncData}
theorem d_lmade2 (D : Dfn K mg "_law_made" s_lmade ["fields"] f fd) (T : Bn mg) (mLS : MkF P w K mg base ⟨K, cA⟩ 4 "LengthSet" "LengthSet" spMk) : Fnc P w K mg base 6 "_law_made" (upSp ⟨K, cA⟩ spMade2) := by
  refine D.fnc (def_ok (k := 5) D.F sc_lmade (fun cdv A outer s H E hr => (js_one (js_ret (j_nwF (C := "LengthSet") mLS hr (by omega) rfl (L2N.passAt (L2N.takes_of rfl rfl rfl rfl)) (ja_cons (j_ix (kix_lt K) os_ix (jv 0) j_int (fun _ _ => rfl)) (ja_cons (j_ix (kix_lt K) os_ix (jv 0) j_int (fun _ _ => rfl)) (ja_cons (j_ix (kix_lt K) os_ix (jv 0) j_int (fun _ _ => rfl)) (ja_cons (j_ix (kix_lt K) os_ix (jv 0) j_int (fun _ _ => rfl)) ja_nil)))))))) ?_ ?_)
  · intro ds S Q E h
    obtain ⟨a, rfl, _⟩ := opt_one h
    rfl
  · intro ds S Q E h
    obtain ⟨x1, rfl, a, p, u, v, rfl, ha, p0, p1, q⟩ := opt_one h
    clear h
    simp_arith [fdD]
    refine ⟨_, _, _, _, rfl, pd_flt, rfl, rfl, pd_flt, fun y hy => ?_, fun _ o h1 h2 h3 => ?_⟩
    · rw [right_flt (by omega) (by omega) (by omega)] at hy
      cases hy
    · exact q o (by rw [h1, setF_flt]) h2 h3
theorem d_lfront (D : Dfn K mg "_law_front" s_lfront ["sets"] f fd) (T : Bn mg) (mFr : MkF P w K mg base ⟨K, cA⟩ 3 "Front" "Front" spFr) : Fnc P w K mg base 5 "_law_front" (upSp ⟨K, cA⟩ spLfront) := by
  refine D.fnc (def_ok (k := 4) D.F sc_lfront (fun cdv A outer s H E hr => (js_cons (js_if (jt_cmp (op_eqA K hr.units) os_eq (j_callB (kcall_len_seq K) cs_len (by rfl) T.len (by decide +kernel) (ja_cons (jv 0) ja_nil)) j_int (nomark _))
      (js_one (js_ret (j_nwF (C := "Front") mFr hr (by omega) rfl (L2N.passAt (L2N.takes_of rfl rfl rfl rfl)) (ja_cons (j_ix (kix_lt K) os_ix (jv 0) j_int (fun _ _ => rfl)) ja_nil))))
      js_nil)
    (js_cons (js_if (jt_cmp (op_eqA K hr.units) os_eq (j_callB (kcall_len_seq K) cs_len (by rfl) T.len (by decide +kernel) (ja_cons (jv 0) ja_nil)) j_int (nomark _))
      (js_one (js_ret (j_nwF (C := "Front") mFr hr (by omega) rfl (L2N.passAt (L2N.takes_of rfl rfl rfl rfl)) (ja_cons (j_ix (kix_lt K) os_ix (jv 0) j_int (fun _ _ => rfl)) (ja_cons (j_ix (kix_lt K) os_ix (jv 0) j_int (fun _ _ => rfl)) ja_nil)))))
      js_nil)
    (js_one (js_ret (j_nwF (C := "Front") mFr hr (by omega) rfl (L2N.passAt (L2N.takes_of rfl rfl rfl rfl)) (ja_cons (j_ix (kix_lt K) os_ix (jv 0) j_int (fun _ _ => rfl)) (ja_cons (j_ix (kix_lt K) os_ix (jv 0) j_int (fun _ _ => rfl)) (ja_cons (j_ix (kix_lt K) os_ix (jv 0) j_int (fun _ _ => rfl)) ja_nil))))))))) ?_ ?_)
  · intro ds S Q E h
    obtain ⟨a, rfl, _⟩ := opt_one h
    rfl
  · intro ds S Q E h
    obtain ⟨x1, rfl, os, rfl, hl, q⟩ := opt_one h
    clear h
    have go : ∀ zs : List LS, zs = os → spFr (lsL zs) S (fun a S1 => Q a S1) fun x S1 => E x S1 := fun zs e => by
      subst e
      exact .inl ⟨zs, fun z => by rw [z] at hl; simp at hl, by omega, rfl, q⟩
    rcases hl with z | z | z
    · obtain ⟨a, rfl⟩ := List.length_eq_one_iff.mp z
      simp_arith [lsL, List.map_cons, List.map_nil, List.length_cons, List.length_nil]
      exact go [a] rfl
    · obtain ⟨a, b, rfl⟩ := len2 z
      simp_arith [lsL, List.map_cons, List.map_nil, List.length_cons, List.length_nil]
      exact go [a, b] rfl
    · obtain ⟨a, b, c, rfl⟩ := len3 z
      simp_arith [lsL, List.map_cons, List.map_nil, List.length_cons, List.length_nil]
      exact go [a, b, c] rfl
end


open Sm
/-! ### comprehensions over lists told by a map, over ranges; a member below 20 -/
theorem lc_on {α : Type} {g : AG} {tt : AM Bool} {te : AM A.D} {ρ : Ev} {Q : List A.D → Sto → Prop} {S : Sto} {d : α → A.D} (p : α → Bool) (r : α → A.D) {xs : List α} (hl : xs.length ≤ 1000000)
    (h : ∀ x ∈ xs, ∀ (Y : A.D → Sto → Prop) (F : Sto → Prop), (p x = true → Y (r x) S) → (p x = false → F S) → g (d x) ρ fun ρ2 => tt ρ2 S (fun b S3 => if b = true then te ρ2 S3 Y (fun _ _ => False) else F S3) fun _ _ => False)
    (q : Q ((xs.filter p).map r) S) : lcX g tt te ρ Q (xs.map d) [] S := by
  refine lcX_by (fun l acc S' => ∃ t : List α, l = t.map d ∧ S' = S ∧ (∀ o ∈ t, o ∈ xs) ∧ acc.length + t.length ≤ xs.length ∧ Q (acc ++ (t.filter p).map r) S) ?_ ?_ ⟨xs, rfl, rfl, fun _ h => h, by simp, by simpa using q⟩
  · rintro acc S' ⟨t, e, rfl, _, _, q⟩
    cases t with
    | nil => simpa using q
    | cons o t => cases e
  · rintro x l acc S' ⟨t, e, rfl, ht, hl2, q⟩ F hF
    cases t with
    | nil => cases e
    | cons o t =>
      obtain ⟨rfl, rfl⟩ : x = d o ∧ l = t.map d := by simpa using e
      simp only [List.length_cons] at hl2
      refine h o (ht o (by simp)) _ _ (fun hp => ⟨by unfold big; omega, hF _ _ ⟨t, rfl, rfl, fun z hz => ht z (by simp [hz]), by simp; omega, ?_⟩⟩) (fun hp => hF _ _ ⟨t, rfl, rfl, fun z hz => ht z (by simp [hz]), by omega, ?_⟩)
      · simpa [List.filter_cons, hp] using q
      · simpa [List.filter_cons, hp] using q
theorem lc_onT {α : Type} {g : AG} {te : AM A.D} {ρ : Ev} {Q : List A.D → Sto → Prop} {S : Sto} {d : α → A.D} (r : α → A.D) {xs : List α} (hl : xs.length ≤ 1000000)
    (h : ∀ x ∈ xs, ∀ (Y : A.D → Sto → Prop) (F : Sto → Prop), Y (r x) S → g (d x) ρ fun ρ2 => aYes ρ2 S (fun b S3 => if b = true then te ρ2 S3 Y (fun _ _ => False) else F S3) fun _ _ => False)
    (q : Q (xs.map r) S) : lcX g aYes te ρ Q (xs.map d) [] S := by
  refine lc_on (fun _ => true) r hl (fun x hx Y F hY _ => h x hx Y F (hY rfl)) ?_
  rw [List.filter_eq_self.mpr fun _ _ => rfl]
  exact q
theorem lc_rngI {g : AG} {tt : AM Bool} {te : AM A.D} {ρ : Ev} {Q : List A.D → Sto → Prop} {n : Nat} (I : Nat → List A.D → Sto → Prop) (hn : ∀ acc S, I n acc S → Q acc S)
    (hc : ∀ i acc S, i < n → I i acc S → ∀ F : List A.D → Sto → Prop, (∀ acc' S', I (i + 1) acc' S' → F acc' S') → g (.int (i : Int)) ρ fun ρ2 => tt ρ2 S (fun b S3 => if b = true then te ρ2 S3 (fun y S4 => acc.length < big ∧ F (acc ++ [y]) S4) (fun _ _ => False) else F acc S3) fun _ _ => False)
    {S : Sto} (h : I 0 [] S) : lcX g tt te ρ Q (rng 0 n) [] S := by
  have e := rng_eq (a := 0) (n := n)
  rw [show ((0 : Nat) : Int) = (0 : Int) from rfl] at e
  rw [e]
  refine lcX_by (fun r acc S' => ∃ k j, r = (List.range' k j).map (fun (j : Nat) => A.D.int (j : Int)) ∧ k + j = n ∧ I k acc S') ?_ ?_ ⟨0, n, rfl, by omega, h⟩
  · rintro acc S' ⟨k, j, e, hj, hp⟩
    cases j with
    | zero =>
      have : k = n := by omega
      subst this
      exact hn acc _ hp
    | succ j => simp [List.range'] at e
  · rintro x r acc S' ⟨k, j, e, hj, hp⟩ F hF
    cases j with
    | zero => simp at e
    | succ j =>
      obtain ⟨rfl, rfl⟩ : x = .int (k : Int) ∧ r = (List.range' (k + 1) j).map (fun (j : Nat) => A.D.int (j : Int)) := by simpa [List.range'] using e
      exact hc k acc _ (by omega) hp F fun acc' S' hp' => hF _ _ ⟨k + 1, j, rfl, by omega, hp'⟩
theorem sml_wit {f : Nat → Bool} (h : Sml f) : ∀ n, f n = true → ∃ i, i < 20 ∧ f i = true := by
  intro n
  induction n using Nat.strongRecOn with
  | ind n ih =>
    intro hn
    by_cases c : n < 20
    · exact ⟨n, c, hn⟩
    · have e := h (n - 12) (by omega)
      rw [show n - 12 + 12 = n by omega] at e
      exact ih (n - 12) (by omega) (by rw [← e]; exact hn)
theorem flt_nil {f : Nat → Bool} {n : Nat} : fltD f n = [] ↔ ∀ i, i < n → f i = false := by
  unfold fltD intD intsN
  rw [List.map_eq_nil_iff, List.map_eq_nil_iff, List.filter_eq_nil_iff]
  constructor
  · intro h i hi
    simpa using h i (List.mem_range.mpr hi)
  · intro h i hi
    simpa using h i (List.mem_range.mp hi)
theorem eq_nilD {xs : List A.D} : eqD (.lst xs) (.lst []) = decide (xs = []) := by
  cases xs with
  | nil => rfl
  | cons x xs =>
    rw [decide_eq_false (by simp)]
    rfl
theorem int_flt {p : Nat → Bool} {n : Nat} : (((List.range n).filter p).map fun (i : Nat) => A.D.int (i : Int)) = fltD p n := by
  rw [int_nats]
  rfl
theorem len3_of {α : Type} {l : List α} {d : Nat} (h : l.length = d + 1) (hd : d < 3) : l.length = 1 ∨ l.length = 2 ∨ l.length = 3 := by omega

/-! ### fronts side by side, plain -/
theorem lsD_inj {o o2 : LS} : lsD o = lsD o2 ↔ o = o2 := by
  refine ⟨fun h => ?_, fun h => by rw [h]⟩
  unfold lsD at h
  injection h with _ _ h
  injection h with h1 h
  injection h with h2 h
  injection h with h3 h
  injection h with h4 _
  injection h1 with h1
  injection h2 with h2
  injection h3 with h3
  injection h4 with h4
  have key : ∀ {a b : List Nat}, intD (intsN a) = intD (intsN b) → a = b := fun {a b} e => by
    unfold intD at e
    exact ints_inj.mp ((List.map_inj_right (f := A.D.int) fun x y z => by cases z; rfl).mp e)
  exact LS.same (Int.ofNat.inj h1) (Int.ofNat.inj h2) (key h3) (key h4)
theorem lsL_inj {os os2 : List LS} : lsL os = lsL os2 ↔ os = os2 := by
  unfold lsL
  exact ⟨fun h => (List.map_inj_right fun x y e => lsD_inj.mp e).mp h, fun h => by rw [h]⟩
theorem frD_inj {os os2 : List LS} : frD os = frD os2 ↔ os = os2 := by
  refine ⟨fun h => ?_, fun h => by rw [h]⟩
  unfold frD at h
  injection h with _ _ h
  injection h with h _
  injection h with h
  exact lsL_inj.mp h
theorem solid_ls {o : LS} : A.solidI "LengthSet" (lsD o) := ⟨_, _, rfl, fun z hz => by
  simp only [List.mem_cons, List.not_mem_nil, or_false] at hz
  rcases hz with rfl | rfl | rfl | rfl
  · exact .inl ⟨_, rfl⟩
  · exact .inl ⟨_, rfl⟩
  · exact .inr ⟨_, rfl⟩
  · exact .inr ⟨_, rfl⟩⟩
open Classical in
theorem all_eq {xs ys : List A.D} (h : xs.length = ys.length) : ((xs.zip ys).all fun p => decide (p.1 = p.2)) = decide (xs = ys) := by
  induction xs generalizing ys with
  | nil =>
    cases ys with
    | nil => simp
    | cons y ys => simp at h
  | cons x xs ih =>
    cases ys with
    | nil => simp at h
    | cons y ys =>
      rw [List.zip_cons_cons, List.all_cons, ih (by simpa using h), Bool.eq_iff_iff]
      simp
/-- two rows of sets, item by item -/
theorem eqI_ls {os os2 : List LS} {S : Sto} {neg : Bool} {Q : QD} (hl : os.length = os2.length) (q : ∀ b : Bool, (b = true ↔ os = os2) → Q (.bl (b != neg)) S) : A.eqI "LengthSet" spEqL (lsL os) (lsL os2) S neg Q := by
  classical
  have ll : (lsL os).length = (lsL os2).length := by simp [lsL, hl]
  have sol : ∀ (l : List LS), ∀ x ∈ lsL l, A.solidI "LengthSet" x := fun l x hx => by
    obtain ⟨o, _, rfl⟩ := List.mem_map.mp hx
    exact solid_ls
  refine ⟨fun x y => decide (x = y), ll, sol os, sol os2, fun x _ => decide_eq_true rfl, fun x hx y hy => ?_, ?_⟩
  · obtain ⟨o, _, rfl⟩ := List.mem_map.mp hx
    obtain ⟨o2, _, rfl⟩ := List.mem_map.mp hy
    refine eq_by (decide (lsD o = lsD o2)) ?_ ⟨rfl, rfl⟩
    rw [decide_eq_true_eq, lsD_inj]
    exact ⟨fun e => by rw [e], LS.ext⟩
  · rw [all_eq ll]
    exact q _ (by rw [decide_eq_true_eq, lsL_inj])
theorem zip_ls {os os2 : List LS} (h : os.length = os2.length) : zipD (lsL os) (lsL os2) = (os.zip os2).map fun p => A.D.tup [lsD p.1, lsD p.2] := by
  unfold zipD
  have l1 : (lsL os).length = os.length := by simp [lsL]
  have l2 : (lsL os2).length = os2.length := by simp [lsL]
  rw [l1, l2, ← h, Nat.min_self]
  refine List.ext_getElem? fun i => ?_
  by_cases c : i < os.length
  · have c2 : i < os2.length := h ▸ c
    simp [lsL, c, c2, List.zip, List.getElem?_zipWith]
  · have c2 : ¬ i < os2.length := h ▸ c
    simp [c, List.zip]
    omega
noncomputable def orL (os os2 : List LS) : List LS := (os.zip os2).map fun p => lsOf fun n => p.1.f n || p.2.f n
noncomputable def andL (os : List LS) (o : LS) : List LS := os.map fun p => lsOf fun n => p.f n && o.f n
def spFeq : ASp := fun ds S Q _ => opt (two2 ds) fun q => ∃ (os : List LS) (e : A.D), q = (frD os, e) ∧ ((∃ os2, e = frD os2 ∧ os.length = os2.length ∧ ∀ b : Bool, (b = true ↔ os = os2) → Q (.bl b) S) ∨ (notLS S e ∧ insOf S e "Front" = none ∧ Q (.bl false) S))
def spFor : ASp := fun ds S Q _ => opt (two2 ds) fun q => ∃ os os2 : List LS, q = (frD os, frD os2) ∧ os.length = os2.length ∧ os ≠ [] ∧ os.length ≤ 1000 ∧ (∀ o ∈ os, Sml o.f) ∧ (∀ o ∈ os2, Sml o.f) ∧ Q (frD (orL os os2)) S
def spFand : ASp := fun ds S Q _ => opt (two2 ds) fun q => ∃ (os : List LS) (o : LS), q = (frD os, lsD o) ∧ os ≠ [] ∧ os.length ≤ 1000 ∧ (∀ p ∈ os, Sml p.f) ∧ Sml o.f ∧ Q (frD (andL os o)) S
/-- place by place below -/
def leL (os os2 : List LS) : Prop := ∀ p ∈ os.zip os2, ∀ n, p.1.f n = true → p.2.f n = true
def spFle : ASp := fun ds S Q _ => opt (two2 ds) fun q => ∃ os os2 : List LS, q = (frD os, frD os2) ∧ os.length = os2.length ∧ os.length ≤ 1000 ∧ (∀ o ∈ os, Sml o.f) ∧ (∀ o ∈ os2, Sml o.f) ∧ ∀ b : Bool, (b = true ↔ leL os os2) → Q (.bl b) S
/-- numbers that are counted, one that is not behind them -/
def badN (xs : List A.D) : Prop := ∃ (pre : List Nat) (d : A.D) (post : List A.D), xs = pre.map (fun (i : Nat) => A.D.int (i : Int)) ++ d :: post ∧ isPd d = true ∧ isCnt d = false
def spOnly : ASp := fun ds S Q E => opt (one1 ds) fun d => ∃ xs : List A.D, d = .tup xs ∧ xs.length ≤ 60 ∧ ((badN xs ∧ E (exPl "number") S) ∨ ∃ ns : List Nat, xs = ns.map (fun (i : Nat) => A.D.int (i : Int)) ∧
  ((∃ n ∈ ns, 5000 ≤ n) → E (exLim "start") S) ∧ ((∀ n ∈ ns, n < 5000) → ∀ r : LS, r.f = (fun n => decide (n ∈ ns)) → Q (lsD r) S))
def spLpairs : ASp := fun ds S Q _ => opt (two2 ds) fun q => ∃ os os2 : List LS, q = (frD os, frD os2) ∧ os.length = os2.length ∧ os.length ≤ 1000 ∧ Q (.lst ((os.zip os2).map fun p => A.D.tup [lsD p.1, lsD p.2])) S


open Sm
/-! ### fronts side by side: ==, |, &, <= -/
abbrev s_feq : Stmt := (inClass (topS 23) 12)
theorem sc_feq : FnScope ["self", "other"] ["self", "other"] (defScope s_feq) := ⟨rfl, rfl, rfl, by decide +kernel, rfl, by decide +kernel, by decide +kernel⟩
abbrev s_for : Stmt := (inClass (topS 23) 13)
theorem sc_for : FnScope ["self", "other", "both", "one", "two"] ["self", "other"] (defScope s_for) := ⟨rfl, rfl, rfl, by decide +kernel, rfl, by decide +kernel, by decide +kernel⟩
abbrev s_fand : Stmt := (inClass (topS 23) 14)
theorem sc_fand : FnScope ["self", "lefts", "some", "item"] ["self", "lefts"] (defScope s_fand) := ⟨rfl, rfl, rfl, by decide +kernel, rfl, by decide +kernel, by decide +kernel⟩
abbrev s_fle : Stmt := (inClass (topS 23) 15)
theorem sc_fle : FnScope ["self", "other", "one", "two"] ["self", "other"] (defScope s_fle) := ⟨rfl, rfl, rfl, by decide +kernel, rfl, by decide +kernel, by decide +kernel⟩
section
variable {P : Program} {w : World} {K : PySem.W.Frag} {cA : Str → Addr} {mg : Str → Option Value} {base : Heap} {f : Addr} {fd : FuncData}
theorem d_feq (D : MDf K "__eq__" "Front.__eq__" s_feq ["self", "other"] f fd) (T : Bn mg) (L : LSc K cA mg) (FR : FSc K cA mg) (iFr : C8.InsC K (cA "Front")) (tiFr : ∀ T ∈ ["list", "tuple", "int", "NoneType", "str", "bool"], PySem.W.kitOne K (.type T) (.ref (cA "Front")) = some false)
    (hEq : Own P w K mg base 1 (cA "LengthSet") "__eq__" (upSp ⟨K, cA⟩ spEqL)) (hf : PySem.W.findIn K (.ref (cA "Front")) "__eq__" = some (some (.ref f))) (hi : PySem.W.isFn K (.ref f) = true) : Own P w K mg base 5 (cA "Front") "__eq__" (upSp ⟨K, cA⟩ spFeq) := by
  refine ⟨f, hf, hi, fnR_of (def_ok (k := 4) D.F sc_feq (fun cdv A outer s H E hr => (js_one (js_ret (j_and (j_callB (call_isiC K iFr) (cs_isiC (Ts := ["list", "tuple", "int", "NoneType", "str", "bool"]) tiFr) (by rfl) T.isinstance (by decide +kernel) (ja_cons (jv 1) (ja_cons (j_gcls (by rfl) FR.gl) ja_nil))) (j_one (j_cmp (kop_eqT hEq hr (by omega)) os_eqT (j_fld (C := "Front") FR.own_lefts (jv 0) rfl) (j_fld (C := "Front") FR.own_lefts (jv 1) rfl) (nomark _))))))) ?_ ?_) D.b⟩
  · intro ds S Q E h
    obtain ⟨a, b, rfl, _⟩ := opt_two h
    rfl
  · intro ds S Q E h
    obtain ⟨x1, x2, rfl, os, e, eq, hh⟩ := opt_two h
    clear h
    cases eq
    rcases hh with ⟨os2, rfl, hl, q⟩ | ⟨hn, hi2, q⟩
    · simp_arith [fIsiC, ins_fr, f_lefts]
      refine ⟨_, _, ⟨rfl, rfl⟩, eqI_ls hl fun b hb => ?_⟩
      rw [show (b != false) = b by cases b <;> rfl]
      exact q b hb
    · obtain ⟨ty, ht, hm⟩ := hn
      simp_arith [fIsiC, hi2, ht, hm]
      exact q
theorem d_for (D : MDf K "__or__" "Front.__or__" s_for ["self", "other"] f fd) (T : Bn mg) (L : LSc K cA mg) (FR : FSc K cA mg) (iFr : C8.InsC K (cA "Front")) (tiFr : ∀ T ∈ ["list", "tuple", "int", "NoneType", "str", "bool"], PySem.W.kitOne K (.type T) (.ref (cA "Front")) = some false)
    (hOr : Own P w K mg base 8 (cA "LengthSet") "__or__" (upSp ⟨K, cA⟩ (spBin "or"))) (sfLS : PySem.W.selfFirst K (cA "LengthSet") = true) (mFr : MkF P w K mg base ⟨K, cA⟩ 3 "Front" "Front" spFr)
    (hf : PySem.W.findIn K (.ref (cA "Front")) "__or__" = some (some (.ref f))) (hi : PySem.W.isFn K (.ref f) = true) : Own P w K mg base 10 (cA "Front") "__or__" (upSp ⟨K, cA⟩ spFor) := by
  refine ⟨f, hf, hi, fnR_of (def_ok (k := 9) D.F sc_for (fun cdv A outer s H E hr => (js_cons (js_if (JW.jt (jw_or (jt_not (jt_val (j_callB (call_isiC K iFr) (cs_isiC (Ts := ["list", "tuple", "int", "NoneType", "str", "bool"]) tiFr) (by rfl) T.isinstance (by decide +kernel) (ja_cons (jv 1) (ja_cons (j_gcls (by rfl) FR.gl) ja_nil))))) (jw_or1 (jt_cmp (op_neA K hr.units) os_ne (j_callB (kcall_len_seq K) cs_len (by rfl) T.len (by decide +kernel) (ja_cons (j_fld (C := "Front") FR.own_lefts (jv 1) rfl) ja_nil)) (j_callB (kcall_len_seq K) cs_len (by rfl) T.len (by decide +kernel) (ja_cons (j_fld (C := "Front") FR.own_lefts (jv 0) rfl) ja_nil)) (nomark _)))))
      (js_one js_never)
      js_nil)
    (js_cons (js_setLc (i := 2) (own := [("one", 3), ("two", 4)]) (tt := aYes) (by rfl) sc_for.nd rfl rfl (sw_true rfl rfl rfl (by decide +kernel)) (gl_tup (m := 2) (gls_cons (gl_name (i := 3) (by decide)) (gls_cons (gl_name (i := 4) (by decide)) gls_nil))) (ji_zip (by rfl) T.zip (ja_cons (j_fld (C := "Front") FR.own_lefts (jv 0) rfl) (ja_cons (j_fld (C := "Front") FR.own_lefts (jv 1) rfl) ja_nil))) (blkOk_by (own := [("one", 3), ("two", 4)]) (N := ["self", "other", "both", "one", "two"]) (sc := defScope s_for) (by decide +kernel)) (fun _ _ _ _ _ => (kpg_tup K (n := 2) rfl (pgs_cons (pg_name (i := 3) sc_for.nd rfl (Or.inl rfl)) (pgs_cons (pg_name (i := 4) sc_for.nd rfl (Or.inl rfl)) pgs_nil)))) (fun _ _ _ _ _ => jts_nil) (fun _ _ _ _ _ => (j_binO (C := "LengthSet") hOr sfLS hr (by omega) (passN rfl rfl) (jv 3) (jv 4))))
    (js_one (js_ret (j_nwFL (C := "Front") mFr hr (by omega) rfl (L2N.passAt (L2N.takes_of rfl rfl rfl rfl)) (jv 2))))))) ?_ ?_) D.b⟩
  · intro ds S Q E h
    obtain ⟨a, b, rfl, _⟩ := opt_two h
    rfl
  · intro ds S Q E h
    obtain ⟨x1, x2, rfl, os, os2, eq, hl, h0, h1, s1, s2, q⟩ := opt_two h
    clear h
    cases eq
    have ll : (lsL os).length = os.length := by simp [lsL]
    have ll2 : (lsL os2).length = os.length := by simp [lsL, hl]
    refine seq_by fun N1 hN1 => ?_
    simp_arith [fIsiC, ins_fr, f_lefts, ll, ll2]
    refine hN1 _ _ ?_
    clear hN1
    refine seq_by fun N1 hN1 => ?_
    simp_arith [ins_fr, f_lefts]
    rw [zip_ls hl]
    refine lc_onT (fun p => lsD (lsOf fun n => p.1.f n || p.2.f n)) (by rw [List.length_zip]; omega) (fun p hp Y F hY => ?_) ?_
    · obtain ⟨m1, m2⟩ := List.of_mem_zip (a := p.1) (b := p.2) hp
      simp_arith [aBinO, ins_ls]
      refine ⟨⟨_, rfl⟩, bin_by (s1 _ m1) (s2 _ m2) fun r hr => ?_⟩
      rw [ls_eq (hr.trans (funext fun n => jop_or))]
      exact hY
    refine hN1 _ _ ?_
    clear hN1
    have e : ((os.zip os2).map fun p => lsD (lsOf fun n => p.1.f n || p.2.f n)) = lsL (orL os os2) := by
      unfold lsL orL
      rw [List.map_map]
      rfl
    rw [e]
    simp_arith
    refine .inl ⟨_, fun z => h0 ?_, by unfold orL; rw [List.length_map, List.length_zip]; omega, rfl, q⟩
    have := congrArg List.length z
    unfold orL at this
    rw [List.length_map, List.length_zip, ← hl, Nat.min_self] at this
    exact List.length_eq_zero_iff.mp this
theorem d_fand (D : MDf K "__and__" "Front.__and__" s_fand ["self", "lefts"] f fd) (T : Bn mg) (L : LSc K cA mg) (FR : FSc K cA mg) (iLS : C8.InsC K (cA "LengthSet")) (tiLS : ∀ T ∈ ["list", "tuple", "int", "NoneType", "str", "bool"], PySem.W.kitOne K (.type T) (.ref (cA "LengthSet")) = some false)
    (hAnd : Own P w K mg base 8 (cA "LengthSet") "__and__" (upSp ⟨K, cA⟩ (spBin "and"))) (sfLS : PySem.W.selfFirst K (cA "LengthSet") = true) (mFr : MkF P w K mg base ⟨K, cA⟩ 3 "Front" "Front" spFr)
    (hf : PySem.W.findIn K (.ref (cA "Front")) "__and__" = some (some (.ref f))) (hi : PySem.W.isFn K (.ref f) = true) : Own P w K mg base 10 (cA "Front") "__and__" (upSp ⟨K, cA⟩ spFand) := by
  refine ⟨f, hf, hi, fnR_of (def_ok (k := 9) D.F sc_fand (fun cdv A outer s H E hr => (js_cons (js_if (jt_not (jt_val (j_callB (call_isiC K iLS) (cs_isiC (Ts := ["list", "tuple", "int", "NoneType", "str", "bool"]) tiLS) (by rfl) T.isinstance (by decide +kernel) (ja_cons (jv 1) (ja_cons (j_gcls (by rfl) L.gl) ja_nil)))))
      (js_one js_never)
      js_nil)
    (js_cons (js_setLc (i := 2) (own := [("item", 3)]) (tt := aYes) (by rfl) sc_fand.nd rfl rfl (sw_true rfl rfl rfl (by decide +kernel)) (gl_name (i := 3) (by decide)) (ji_seq (j_fld (C := "Front") FR.own_lefts (jv 0) rfl)) (blkOk_by (own := [("item", 3)]) (N := ["self", "lefts", "some", "item"]) (sc := defScope s_fand) (by decide +kernel)) (fun _ _ _ _ _ => (pg_name (i := 3) sc_fand.nd rfl (Or.inl rfl))) (fun _ _ _ _ _ => jts_nil) (fun _ _ _ _ _ => (j_binO (C := "LengthSet") hAnd sfLS hr (by omega) (passN rfl rfl) (jv 3) (jv 1))))
    (js_one (js_ret (j_nwFL (C := "Front") mFr hr (by omega) rfl (L2N.passAt (L2N.takes_of rfl rfl rfl rfl)) (jv 2))))))) ?_ ?_) D.b⟩
  · intro ds S Q E h
    obtain ⟨a, b, rfl, _⟩ := opt_two h
    rfl
  · intro ds S Q E h
    obtain ⟨x1, x2, rfl, os, o, eq, h0, h1, s1, so, q⟩ := opt_two h
    clear h
    cases eq
    refine seq_by fun N1 hN1 => ?_
    simp_arith [fIsiC, ins_ls]
    refine hN1 _ _ ?_
    clear hN1
    refine seq_by fun N1 hN1 => ?_
    simp_arith [ins_fr, f_lefts]
    refine lc_ls (fun p => lsD (lsOf fun n => p.f n && o.f n)) (by omega) (fun p hp Y F hY => ?_) ?_
    · simp_arith [aBinO, ins_ls]
      refine ⟨⟨_, rfl⟩, bin_by (s1 p hp) so fun r hr => ?_⟩
      rw [ls_eq (hr.trans (funext fun n => jop_and))]
      exact hY
    refine hN1 _ _ ?_
    clear hN1
    have e : (os.map fun p => lsD (lsOf fun n => p.f n && o.f n)) = lsL (andL os o) := by
      unfold lsL andL
      rw [List.map_map]
      rfl
    rw [e]
    simp_arith
    refine .inl ⟨_, fun z => h0 ?_, by unfold andL; rw [List.length_map]; exact h1, rfl, q⟩
    unfold andL at z
    exact List.map_eq_nil_iff.mp z
theorem d_fle (D : MDf K "__le__" "Front.__le__" s_fle ["self", "other"] f fd) (T : Bn mg) (L : LSc K cA mg) (FR : FSc K cA mg) (iFr : C8.InsC K (cA "Front")) (tiFr : ∀ T ∈ ["list", "tuple", "int", "NoneType", "str", "bool"], PySem.W.kitOne K (.type T) (.ref (cA "Front")) = some false)
    (hLe : Own P w K mg base 8 (cA "LengthSet") "__le__" (upSp ⟨K, cA⟩ spLeL)) (rEq : RtO K (cA "LengthSet") []) (hf : PySem.W.findIn K (.ref (cA "Front")) "__le__" = some (some (.ref f))) (hi : PySem.W.isFn K (.ref f) = true) : Own P w K mg base 10 (cA "Front") "__le__" (upSp ⟨K, cA⟩ spFle) := by
  refine ⟨f, hf, hi, fnR_of (def_ok (k := 9) D.F sc_fle (fun cdv A outer s H E hr => (js_cons (js_if (JW.jt (jw_or (jt_not (jt_val (j_callB (call_isiC K iFr) (cs_isiC (Ts := ["list", "tuple", "int", "NoneType", "str", "bool"]) tiFr) (by rfl) T.isinstance (by decide +kernel) (ja_cons (jv 1) (ja_cons (j_gcls (by rfl) FR.gl) ja_nil))))) (jw_or1 (jt_cmp (op_neA K hr.units) os_ne (j_callB (kcall_len_seq K) cs_len (by rfl) T.len (by decide +kernel) (ja_cons (j_fld (C := "Front") FR.own_lefts (jv 1) rfl) ja_nil)) (j_callB (kcall_len_seq K) cs_len (by rfl) T.len (by decide +kernel) (ja_cons (j_fld (C := "Front") FR.own_lefts (jv 0) rfl) ja_nil)) (nomark _)))))
      (js_one js_never)
      js_nil)
    (js_one (js_ret (j_callB (cr_all rfl) cs_all (by rfl) T.all (by decide +kernel) (ja_cons (j_lc (own := [("one", 2), ("two", 3)]) (tt := aYes) (by rfl) sc_fle.nd (gl_tup (m := 2) (gls_cons (gl_name (i := 2) (by decide)) (gls_cons (gl_name (i := 3) (by decide)) gls_nil))) (ji_zip (by rfl) T.zip (ja_cons (j_fld (C := "Front") FR.own_lefts (jv 0) rfl) (ja_cons (j_fld (C := "Front") FR.own_lefts (jv 1) rfl) ja_nil))) (blkOk_by (own := [("one", 2), ("two", 3)]) (N := ["self", "other", "one", "two"]) (sc := defScope s_fle) (by decide +kernel)) (fun _ _ _ _ _ => (kpg_tup K (n := 2) rfl (pgs_cons (pg_name (i := 2) sc_fle.nd rfl (Or.inl rfl)) (pgs_cons (pg_name (i := 3) sc_fle.nd rfl (Or.inl rfl)) pgs_nil)))) (fun _ _ _ _ _ => jts_nil) (fun _ _ _ _ _ => (j_cmp (kop_leO hLe hr (by omega)) (os_cmpO rEq) (jv 2) (jv 3) (nomark _)))) ja_nil)))))) ?_ ?_) D.b⟩
  · intro ds S Q E h
    obtain ⟨a, b, rfl, _⟩ := opt_two h
    rfl
  · intro ds S Q E h
    obtain ⟨x1, x2, rfl, os, os2, eq, hl, h1, s1, s2, q⟩ := opt_two h
    clear h
    cases eq
    have ll : (lsL os).length = os.length := by simp [lsL]
    have ll2 : (lsL os2).length = os.length := by simp [lsL, hl]
    refine seq_by fun N1 hN1 => ?_
    simp_arith [fIsiC, ins_fr, f_lefts, ll, ll2]
    refine hN1 _ _ ?_
    clear hN1
    simp_arith [ins_fr, f_lefts]
    rw [zip_ls hl]
    classical
    refine lc_onT (fun p => .bl (decide (∀ n, p.1.f n = true → p.2.f n = true))) (by rw [List.length_zip]; omega) (fun p hp Y F hY => ?_) ?_
    · obtain ⟨m1, m2⟩ := List.of_mem_zip (a := p.1) (b := p.2) hp
      simp_arith [dCmpO, ins_ls, spLeL, rightOk]
      refine ⟨.inl ⟨_, rfl⟩, p.1, p.2, rfl, sml_lcm (s1 _ m1) (s2 _ m2), fun b hb => ?_⟩
      try simp_arith
      have e : b = decide (∀ n, p.1.f n = true → p.2.f n = true) := by rw [Bool.eq_iff_iff, hb, decide_eq_true_eq]
      rw [e]
      exact hY
    have e7 : (os.zip os2).map (fun p => A.D.bl (decide (∀ n, p.1.f n = true → p.2.f n = true))) = ((os.zip os2).map fun p => decide (∀ n, p.1.f n = true → p.2.f n = true)).map A.D.bl := by
      rw [List.map_map]
      rfl
    rw [e7]
    simp_arith [bools_map]
    refine q _ ?_
    rw [List.all_eq_true]
    unfold leL
    simp only [List.mem_map, id_eq]
    constructor
    · intro h p hp
      exact of_decide_eq_true (h _ ⟨p, hp, rfl⟩)
    · rintro h b ⟨p, hp, rfl⟩
      exact decide_eq_true (h p hp)
end


open Sm
/-! ### the set of some numbers -/
abbrev s_only : Stmt := (inClass (topS 19) 8)
theorem sc_only : FnScope ["numbers", "number", "early"] ["numbers"] (defScope s_only) := ⟨rfl, rfl, rfl, by decide +kernel, rfl, by decide +kernel, by decide +kernel⟩
theorem at_last {l : List Int} {x : Int} : atI ((l ++ [x]).map A.D.int) (-1) = some (.int x) := by
  unfold atI ixN
  have e : ((l ++ [x]).map A.D.int).length = l.length + 1 := by simp
  rw [e, if_neg (by omega), if_pos (by omega), show ((-1 : Int) + ((l.length + 1 : Nat) : Int)).toNat = l.length by omega]
  simp
theorem only_out {ns : List Nat} {out : List Int} (hp : out.Pairwise (· < ·)) (hm : ∀ k, k ∈ out ↔ k ∈ intsN ns) (h0 : ns ≠ []) : ∃ (l : List Int) (top : Nat), out = l ++ [(top : Int)] ∧ top ∈ ns ∧ ∀ n ∈ ns, n ≤ top := by
  rcases List.eq_nil_or_concat out with rfl | ⟨l, x, rfl⟩
  · cases ns with
    | nil => exact absurd rfl h0
    | cons n ns => exact absurd ((hm n).mpr (mem_intsN.mpr (by simp))) (by simp)
  · rw [List.concat_eq_append] at hp hm ⊢
    obtain ⟨top, ht, rfl⟩ := List.mem_map.mp ((hm x).mp (by simp))
    refine ⟨l, top, rfl, ht, fun n hn => ?_⟩
    have h1 := (hm n).mpr (mem_intsN.mpr hn)
    rcases List.mem_append.mp h1 with z | z
    · have := (List.pairwise_append.mp hp).2.2 _ z (top : Int) (by simp)
      omega
    · have := List.mem_singleton.mp z
      omega
theorem only_set {ns : List Nat} {out : List Int} {top : Nat} (hm : ∀ k, k ∈ out ↔ k ∈ intsN ns) (ht : ∀ n ∈ ns, n ≤ top) : setF (.lst (out.map A.D.int)) (.int ((top + 1 : Nat) : Int)) (.int 1) (.tup []) = fun n => decide (n ∈ ns) := by
  funext n
  have e : numsD (.lst (out.map A.D.int)) = out := by
    show (out.map A.D.int).map numI = out
    rw [List.map_map]
    exact List.map_id _
  unfold setF hasN
  rw [e]
  show (if n < top + 1 then decide ((n : Int) ∈ out) else decide (((n % 1 : Nat) : Int) ∈ ([] : List Int))) = _
  have h1 : (n : Int) ∈ out ↔ n ∈ ns := by rw [hm, mem_intsN]
  by_cases c : n < top + 1
  · rw [if_pos c, Bool.eq_iff_iff, decide_eq_true_eq, decide_eq_true_eq, h1]
  · rw [if_neg c, Bool.eq_iff_iff, decide_eq_true_eq, decide_eq_true_eq]
    exact ⟨fun z => by simp at z, fun z => absurd (ht n z) (by omega)⟩
theorem only_right {ns : List Nat} {out : List Int} {top : Nat} (hp : out.Pairwise (· < ·)) (hm : ∀ k, k ∈ out ↔ k ∈ intsN ns) (ht : ∀ n ∈ ns, n ≤ top) :
    wrongSet (.lst (out.map A.D.int)) (.int ((top + 1 : Nat) : Int)) (.int 1) (.tup []) = if 5000 < top + 1 then some (true, ("start" : Str)) else none := by
  have e1 : isAsc (numI (.int ((top + 1 : Nat) : Int))) (.lst (out.map A.D.int)) = true := ascL_of hp fun x hx => by
    obtain ⟨n, hn, rfl⟩ := List.mem_map.mp ((hm x).mp hx)
    have := ht n hn
    show (-1 : Int) < (n : Int) ∧ (0 : Int) ≤ (n : Int) ∧ (n : Int) < ((top + 1 : Nat) : Int)
    omega
  have e2 : isAsc (numI (.int 1)) (.tup []) = true := rfl
  have n1 : isCnt (.int ((top + 1 : Nat) : Int)) = true := by
    simp only [isCnt]
    exact decide_eq_true (by omega)
  have n2 : isCnt (.int 1) = true := rfl
  unfold wrongSet
  rw [if_neg (by rw [n1]; decide)]
  by_cases c : 5000 < top + 1
  · rw [if_pos (by simp only [numI]; omega), if_pos c]
  · rw [if_neg (by simp only [numI]; omega), if_neg c, if_neg (by rw [n2]; simp only [numI]; rintro (z | z); cases z; omega), if_neg (by simp only [numI]; omega), e1, e2]
    rfl
section
variable {P : Program} {w : World} {K : PySem.W.Frag} {cA : Str → Addr} {mg : Str → Option Value} {base : Heap} {f : Addr} {fd : FuncData}
theorem d_only (D : MDg K "only" "LengthSet.only" s_only f fd) (T : Bn mg) (L : LSc K cA mg) (xNoSet : XCls P K mg "NoSet" (cA "NoSet") "place") (cK : Fnc P w K mg base 1 "is_count" (upSp ⟨K, cA⟩ spCount))
    (mLS0 : MkF P w K mg base ⟨K, cA⟩ 4 "LengthSet" "LengthSet" (dflSp [.tup [], .int 0, .int 1, .tup []] spMk)) (mLS2 : MkF P w K mg base ⟨K, cA⟩ 4 "LengthSet" "LengthSet" (dflSp [.int 1, .tup []] spMk))
    (hbn : ∀ (us rest : List Value), us.length = ([] : List Str).length → bindArgs fd ⟨us ++ rest, []⟩ = (newTuple rest >>= fun t => pure (([] : List Str).zip us ++ [(("numbers" : Str), t)]))) (hm : SMet K (cA "LengthSet") "only" f) :
    StM P w K mg base 6 (cA "LengthSet") "only" (upSp ⟨K, cA⟩ (starSp 0 spOnly)) := by
  refine ⟨f, hm, def_star (k := 5) (ps := []) (pv := "numbers") D.F sc_only hbn (fun cdv A outer s H E hr => (js_cons (js_for (vs := [0, 1, 2]) (gl_name (i := 1) (by decide)) (passes_of rfl) rfl (ji_seq (jv 0)) (pg_name (i := 1) sc_only.nd rfl (Or.inl rfl))
      (js_one (js_if (jt_not (jt_val (j_fc cK hr (by omega) rfl (L2N.passAt (L2N.takes_of rfl rfl rfl rfl)) (ja_cons (jv 1) ja_nil))))
        (js_one (js_raise (C := "NoSet") rfl xNoSet hr (L2N.takes_of rfl rfl rfl rfl) (ja_cons j_str ja_nil)))
        js_nil)))
    (js_cons (js_set (i := 2) sc_only.nd rfl (Or.inl rfl) (j_srtSet rfl (by rfl) T.sorted (by rfl) T.set (jv 0)))
    (js_cons (js_if (jt_not (jt_truS (jv 2)))
      (js_one (js_ret (j_nwF0 (C := "LengthSet") mLS0 hr (by omega) rfl (L2N.passAt (L2N.takes_of rfl rfl rfl rfl)))))
      js_nil)
    (js_one (js_ret (j_nwF (C := "LengthSet") mLS2 hr (by omega) rfl (L2N.passAt (L2N.takes_of rfl rfl rfl rfl)) (ja_cons (jv 2) (ja_cons (j_op (op_addA K) os_add (j_ix (kix_lt K) os_ix (jv 2) (j_neg j_int) (fun _ _ => rfl)) j_int) ja_nil))))))))) ?_⟩
  rintro ds S Q E h
  obtain ⟨x1, rfl, xs, rfl, hl, h⟩ := opt_one h
  refine seq_by fun N1 hN1 => ?_
  simp_arith
  rcases h with ⟨⟨pre, d, post, rfl, hd1, hd2⟩, q⟩ | ⟨ns, rfl, qe, q⟩
  · refine forX_by (fun r ρ S' => ∃ (t : List Nat) (x y : Option A.D), r = t.map (fun (i : Nat) => A.D.int (i : Int)) ++ d :: post ∧ ρ = [some (.tup (pre.map (fun (i : Nat) => A.D.int (i : Int)) ++ d :: post)), x, y] ∧ S' = S) ?_ ?_ ⟨pre, _, _, rfl, rfl, rfl⟩
    · rintro ρ S' ⟨t, x, y, e, rfl, rfl⟩
      simp at e
    · rintro x r ρ S' ⟨t, y, z, e, rfl, rfl⟩ F hF
      cases t with
      | nil =>
        obtain ⟨rfl, rfl⟩ : x = d ∧ r = post := by simpa using e
        simp_arith [spCount, hd1, hd2]
        exact q
      | cons o t =>
        obtain ⟨rfl, rfl⟩ : x = .int (o : Int) ∧ r = t.map (fun (i : Nat) => A.D.int (i : Int)) ++ d :: post := by simpa using e
        have c0 : isCnt (.int (o : Int)) = true := by simp [isCnt]
        simp_arith [spCount, c0]
        exact ⟨rfl, hF _ _ ⟨t, _, _, rfl, rfl, rfl⟩⟩
  · refine forX_by (fun r ρ S' => ∃ (t : List Nat) (x y : Option A.D), r = t.map (fun (i : Nat) => A.D.int (i : Int)) ∧ ρ = [some (.tup (ns.map fun (i : Nat) => A.D.int (i : Int))), x, y] ∧ S' = S) ?_ ?_ ⟨ns, _, _, rfl, rfl, rfl⟩
    rotate_left
    · rintro x r ρ S' ⟨t, y, z, e, rfl, rfl⟩ F hF
      cases t with
      | nil => cases e
      | cons o t =>
        obtain ⟨rfl, rfl⟩ : x = .int (o : Int) ∧ r = t.map (fun (i : Nat) => A.D.int (i : Int)) := by simpa using e
        have c0 : isCnt (.int (o : Int)) = true := by simp [isCnt]
        simp_arith [spCount, c0]
        exact ⟨rfl, hF _ _ ⟨t, _, _, rfl, rfl, rfl⟩⟩
    rintro ρ S' ⟨t, x, y, e, rfl, rfl⟩
    refine hN1 _ _ ?_
    clear hN1
    refine seq_by fun N1 hN1 => ?_
    simp_arith
    refine ⟨intsN ns, by unfold intsN; rw [List.map_map]; rfl, by unfold intsN; rw [List.length_map]; simpa using hl, fun out hp hm2 => ?_⟩
    refine hN1 _ _ ?_
    clear hN1
    refine seq_by fun N1 hN1 => ?_
    simp_arith
    by_cases c : ns = []
    · subst c
      have e0 : out = [] := List.eq_nil_iff_forall_not_mem.mpr fun k hk => by
        have := (hm2 k).mp hk
        simp [intsN] at this
      rw [e0]
      refine iteP rfl ?_
      simp_arith [dflSp]
      refine mk_by rfl rfl fun o ho => q (fun n hn => by simp at hn) o ?_
      rw [ho]
      funext n
      simp [setF, numsD, sqOf, numI, hasN]
    · obtain ⟨l, top, e1, m1, m2⟩ := only_out hp hm2 c
      refine iteN (by rw [e1]; simp) ?_
      refine hN1 _ _ ?_
      clear hN1
      have e3 : (top : Int) + 1 = ((top + 1 : Nat) : Int) := by omega
      have e4 : atI (out.map A.D.int) (-1) = some (.int (top : Int)) := by rw [e1]; exact at_last
      simp_arith [e3, e4, dflSp]
      have hr := only_right (top := top) hp hm2 m2
      refine ⟨_, _, _, _, rfl, (dts (k := 0) fun z hz => by obtain ⟨i, _, rfl⟩ := List.mem_map.mp hz; exact .int).1, rfl, rfl, rfl, fun y hy => ?_, fun hn o ho _ _ => ?_⟩
      · rw [hr] at hy
        by_cases c2 : 5000 < top + 1
        · rw [if_pos c2] at hy
          cases hy
          exact qe ⟨top, m1, by omega⟩
        · rw [if_neg c2] at hy
          cases hy
      · rw [hr] at hn
        have c2 : ¬ 5000 < top + 1 := fun z => by rw [if_pos z] at hn; cases hn
        refine q (fun n hn2 => ?_) o (ho.trans (only_set hm2 m2))
        have := m2 n hn2
        omega
end


open Sm
theorem sml_next {f : Nat → Bool} (h : Sml f) : Sml fun n => f (n + 1) := fun n hn => by
  show f (n + 12 + 1) = f (n + 1)
  rw [show n + 12 + 1 = n + 1 + 12 by omega]
  exact h (n + 1) (by omega)

/-! ### the law on fronts side by side, plain -/
noncomputable def nextL (os : List LS) : List LS := rotL (os.map fun o => lsOf fun n => o.f (n + 1))
noncomputable def passL (os : List LS) (g : Nat → Bool) : List LS := (List.range os.length).map fun to => lsOf (passA os g os.length os.length to)
theorem ls_ext {xs ys : List LS} (hl : xs.length = ys.length) (h : ∀ i, i < xs.length → (xs.getD i noneL).f = (ys.getD i noneL).f) : xs = ys := by
  refine List.ext_getElem hl fun i h1 h2 => LS.ext ?_
  have := h i h1
  rw [List.getD_eq_getElem?_getD, List.getD_eq_getElem?_getD, List.getElem?_eq_getElem h1, List.getElem?_eq_getElem h2] at this
  exact this
theorem orL_len {a b : List LS} (h : a.length = b.length) : (orL a b).length = a.length := by
  unfold orL
  rw [List.length_map, List.length_zip]
  omega
theorem andL_len {a : List LS} {o : LS} : (andL a o).length = a.length := by
  unfold andL
  rw [List.length_map]
theorem nextL_len {a : List LS} : (nextL a).length = a.length := by
  unfold nextL rotL
  simp
theorem passL_len {a : List LS} {g : Nat → Bool} : (passL a g).length = a.length := by
  unfold passL
  simp
theorem orL_f {a b : List LS} (h : a.length = b.length) (sa : ∀ o ∈ a, Sml o.f) (sb : ∀ o ∈ b, Sml o.f) {i : Nat} (hi : i < a.length) : ((orL a b).getD i noneL).f = fun n => (a.getD i noneL).f n || (b.getD i noneL).f n := by
  have hi2 : i < b.length := h ▸ hi
  have e : (orL a b).getD i noneL = lsOf fun n => (a.getD i noneL).f n || (b.getD i noneL).f n := by
    unfold orL
    simp [List.getD_eq_getElem?_getD, hi, hi2, List.zip, List.getElem?_zipWith]
  rw [e]
  exact lsOf_f (Sml.orc (sml_getD sa i) (sml_getD sb i))
theorem sml_list {a : List LS} (h : ∀ i, i < a.length → Sml (a.getD i noneL).f) : ∀ o ∈ a, Sml o.f := fun o ho => by
  obtain ⟨i, hi⟩ := List.getElem?_of_mem ho
  have l := (List.getElem?_eq_some_iff.mp hi).1
  have := h i l
  rw [List.getD_eq_getElem?_getD, hi] at this
  exact this
theorem orL_sml {a b : List LS} (h : a.length = b.length) (sa : ∀ o ∈ a, Sml o.f) (sb : ∀ o ∈ b, Sml o.f) : ∀ o ∈ orL a b, Sml o.f := sml_list fun i hi => by
  rw [orL_len h] at hi
  rw [orL_f h sa sb hi]
  exact Sml.orc (sml_getD sa i) (sml_getD sb i)
theorem andL_sml {a : List LS} {o : LS} (sa : ∀ o ∈ a, Sml o.f) (so : Sml o.f) : ∀ p ∈ andL a o, Sml p.f := fun p hp => by
  obtain ⟨q, hq, rfl⟩ := List.mem_map.mp hp
  rw [lsOf_f (Sml.andf (sa q hq) so)]
  exact Sml.andf (sa q hq) so
theorem nextL_f {a : List LS} (h3 : a.length = 1 ∨ a.length = 2 ∨ a.length = 3) (sa : ∀ o ∈ a, Sml o.f) {i : Nat} (hi : i < a.length) : ((nextL a).getD i noneL).f = fun n => (a.getD ((i + a.length - 1) % a.length) noneL).f (n + 1) := by
  have nx : ∀ o ∈ a, (lsOf fun n => o.f (n + 1)).f = fun n => o.f (n + 1) := fun o ho => lsOf_f (sml_next (sa o ho))
  rcases h3 with z | z | z
  · obtain ⟨x, rfl⟩ := List.length_eq_one_iff.mp z
    obtain rfl : i = 0 := by rw [z] at hi; omega
    exact nx x (by simp)
  · obtain ⟨x, y, rfl⟩ := len2 z
    have : i = 0 ∨ i = 1 := by rw [z] at hi; omega
    rcases this with rfl | rfl
    · rw [show (0 + [x, y].length - 1) % [x, y].length = 1 from by simp]
      exact nx y (by simp)
    · rw [show (1 + [x, y].length - 1) % [x, y].length = 0 from by simp]
      exact nx x (by simp)
  · obtain ⟨x, y, w, rfl⟩ := len3 z
    have : i = 0 ∨ i = 1 ∨ i = 2 := by rw [z] at hi; omega
    rcases this with rfl | rfl | rfl
    · rw [show (0 + [x, y, w].length - 1) % [x, y, w].length = 2 from by simp]
      exact nx w (by simp)
    · rw [show (1 + [x, y, w].length - 1) % [x, y, w].length = 0 from by simp]
      exact nx x (by simp)
    · rw [show (2 + [x, y, w].length - 1) % [x, y, w].length = 1 from by simp]
      exact nx y (by simp)
theorem nextL_sml {a : List LS} (h3 : a.length = 1 ∨ a.length = 2 ∨ a.length = 3) (sa : ∀ o ∈ a, Sml o.f) : ∀ o ∈ nextL a, Sml o.f := sml_list fun i hi => by
  rw [nextL_len] at hi
  rw [nextL_f h3 sa hi]
  exact sml_next (sml_getD sa _)
theorem passL_f {a : List LS} {g : Nat → Bool} (sa : ∀ o ∈ a, Sml o.f) {i : Nat} (hi : i < a.length) : ((passL a g).getD i noneL).f = passA a g a.length a.length i := by
  have e : (passL a g).getD i noneL = lsOf (passA a g a.length a.length i) := by
    unfold passL
    simp [List.getD_eq_getElem?_getD, hi]
  rw [e]
  exact lsOf_f (sml_passA sa)
theorem passL_sml {a : List LS} {g : Nat → Bool} (sa : ∀ o ∈ a, Sml o.f) : ∀ o ∈ passL a g, Sml o.f := sml_list fun i hi => by
  rw [passL_len] at hi
  rw [passL_f sa hi]
  exact sml_passA sa
theorem pass_iff {a : List LS} {g : Nat → Bool} {p : Nat} (hp : 12 % p = 0) (p0 : 0 < p) (sa : ∀ o ∈ a, Sml o.f) (sg : Sml g) {to n : Nat} : passA a g p p to n = true ↔ ∃ s i, i < p ∧ (i + s) % p = to ∧ g s = true ∧ (a.getD i noneL).f (n + s) = true := by
  unfold passA passB stepF
  simp only [List.any_eq_true, List.mem_range, Bool.and_eq_true, decide_eq_true_eq]
  constructor
  · rintro ⟨r, hr, i, hi, h1, h2⟩
    rw [goneF_iff (sml_getD sa i) (sml_resG hp sg)] at h2
    obtain ⟨s, h3, h4⟩ := h2
    unfold resG at h3
    simp only [Bool.and_eq_true, decide_eq_true_eq] at h3
    refine ⟨s, i, hi, ?_, h3.1, h4⟩
    rw [Nat.add_mod, h3.2, Nat.mod_eq_of_lt hi]
    exact h1
  · rintro ⟨s, i, hi, h1, h2, h3⟩
    refine ⟨s % p, Nat.mod_lt _ p0, i, hi, ?_, ?_⟩
    · rw [Nat.add_mod_mod]
      exact h1
    · rw [goneF_iff (sml_getD sa i) (sml_resG hp sg)]
      refine ⟨s, ?_, h3⟩
      unfold resG
      simp only [Bool.and_eq_true, decide_eq_true_eq]
      exact ⟨h2, trivial⟩
section
variable {a b : List LS} {o o2 : LS}
theorem div12 (h3 : a.length = 1 ∨ a.length = 2 ∨ a.length = 3) : 12 % a.length = 0 := by rcases h3 with z | z | z <;> rw [z]
theorem orL_comm (h : a.length = b.length) (sa : ∀ o ∈ a, Sml o.f) (sb : ∀ o ∈ b, Sml o.f) : orL a b = orL b a := ls_ext (by rw [orL_len h, orL_len h.symm, h]) fun i hi => by
  rw [orL_len h] at hi
  rw [orL_f h sa sb hi, orL_f h.symm sb sa (h ▸ hi)]
  funext n
  exact Bool.or_comm _ _
theorem leL_iff (h : a.length = b.length) : leL a b ↔ ∀ i, i < a.length → ∀ n, (a.getD i noneL).f n = true → (b.getD i noneL).f n = true := by
  unfold leL
  constructor
  · intro hh i hi n hn
    have hi2 : i < b.length := h ▸ hi
    have := hh (a.getD i noneL, b.getD i noneL) (List.mem_of_getElem? (i := i) (by simp [List.getD_eq_getElem?_getD, hi, hi2, List.zip, List.getElem?_zipWith])) n
    exact this hn
  · intro hh p hp n hn
    obtain ⟨i, hi⟩ := List.getElem?_of_mem hp
    have l : i < (a.zip b).length := (List.getElem?_eq_some_iff.mp hi).1
    rw [List.length_zip] at l
    have l1 : i < a.length := by omega
    have l2 : i < b.length := by omega
    have e : p = (a[i], b[i]) := by
      have : (a.zip b)[i]? = some (a[i], b[i]) := by simp [List.zip, List.getElem?_zipWith, l1, l2]
      rw [this] at hi
      exact (Option.some.inj hi).symm
    have := hh i l1 n
    rw [e] at hn ⊢
    simp only [List.getD_eq_getElem?_getD, List.getElem?_eq_getElem l1, List.getElem?_eq_getElem l2, Option.getD_some] at this
    exact this hn
theorem le_or1 (h : a.length = b.length) (sa : ∀ o ∈ a, Sml o.f) (sb : ∀ o ∈ b, Sml o.f) : leL a (orL a b) := (leL_iff (orL_len h).symm).mpr fun i hi n hn => by
  rw [orL_f h sa sb hi]
  simp only [hn, Bool.true_or]
theorem le_or2 (h : a.length = b.length) (sa : ∀ o ∈ a, Sml o.f) (sb : ∀ o ∈ b, Sml o.f) : leL b (orL a b) := by
  rw [orL_comm h sa sb]
  exact le_or1 h.symm sb sa
theorem le_and (sa : ∀ o ∈ a, Sml o.f) (so : Sml o.f) : leL (andL a o) a := fun p hp n hn => by
  unfold andL at hp
  obtain ⟨i, hi⟩ := List.getElem?_of_mem hp
  have l : i < ((a.map fun p => lsOf fun n => p.f n && o.f n).zip a).length := (List.getElem?_eq_some_iff.mp hi).1
  rw [List.length_zip, List.length_map] at l
  have l1 : i < a.length := by omega
  have e : p = (lsOf (fun n => a[i].f n && o.f n), a[i]) := by
    have : ((a.map fun p => lsOf fun n => p.f n && o.f n).zip a)[i]? = some (lsOf (fun n => a[i].f n && o.f n), a[i]) := by simp [List.zip, List.getElem?_zipWith, l1]
    rw [this] at hi
    exact (Option.some.inj hi).symm
  rw [e] at hn ⊢
  have hn : (lsOf fun n => a[i].f n && o.f n).f n = true := hn
  rw [lsOf_f (Sml.andf (sa _ (List.getElem_mem l1)) so)] at hn
  simp only [Bool.and_eq_true] at hn
  exact hn.1
theorem next_or (h3 : a.length = 1 ∨ a.length = 2 ∨ a.length = 3) (h : a.length = b.length) (sa : ∀ o ∈ a, Sml o.f) (sb : ∀ o ∈ b, Sml o.f) : nextL (orL a b) = orL (nextL a) (nextL b) := by
  have lo := orL_len h
  have ln : (nextL a).length = (nextL b).length := by rw [nextL_len, nextL_len, h]
  refine ls_ext (by rw [nextL_len, orL_len ln, nextL_len, lo]) fun i hi => ?_
  rw [nextL_len, lo] at hi
  have p0 : 0 < a.length := by omega
  rw [nextL_f (by rw [lo]; exact h3) (orL_sml h sa sb) (by rw [lo]; exact hi), orL_f ln (nextL_sml h3 sa) (nextL_sml (h ▸ h3) sb) (by rw [nextL_len]; exact hi), nextL_f h3 sa hi, nextL_f (h ▸ h3) sb (h ▸ hi), lo, ← h,
    orL_f h sa sb (Nat.mod_lt _ p0)]
theorem pass_or (h3 : a.length = 1 ∨ a.length = 2 ∨ a.length = 3) (h : a.length = b.length) (sa : ∀ o ∈ a, Sml o.f) (sb : ∀ o ∈ b, Sml o.f) {g : Nat → Bool} (sg : Sml g) : passL (orL a b) g = orL (passL a g) (passL b g) := by
  have lo := orL_len h
  have lp : (passL a g).length = (passL b g).length := by rw [passL_len, passL_len, h]
  have p0 : 0 < a.length := by omega
  refine ls_ext (by rw [passL_len, orL_len lp, passL_len, lo]) fun i hi => ?_
  rw [passL_len, lo] at hi
  rw [passL_f (orL_sml h sa sb) (by rw [lo]; exact hi), orL_f lp (passL_sml sa) (passL_sml sb) (by rw [passL_len]; exact hi), passL_f sa hi, passL_f sb (h ▸ hi), lo, ← h]
  funext n
  rw [Bool.eq_iff_iff, Bool.or_eq_true, pass_iff (div12 h3) p0 (orL_sml h sa sb) sg, pass_iff (div12 h3) p0 sa sg, pass_iff (div12 h3) p0 sb sg]
  constructor
  · rintro ⟨s, j, hj, h1, h2, h4⟩
    rw [orL_f h sa sb hj] at h4
    simp only [Bool.or_eq_true] at h4
    exact h4.imp (fun z => ⟨s, j, hj, h1, h2, z⟩) fun z => ⟨s, j, hj, h1, h2, z⟩
  · rintro (⟨s, j, hj, h1, h2, h4⟩ | ⟨s, j, hj, h1, h2, h4⟩) <;> exact ⟨s, j, hj, h1, h2, by rw [orL_f h sa sb hj]; simp only [h4, Bool.true_or, Bool.or_true]⟩
theorem pass_two (h3 : a.length = 1 ∨ a.length = 2 ∨ a.length = 3) (sa : ∀ o ∈ a, Sml o.f) {g g2 : Nat → Bool} (sg : Sml g) (sg2 : Sml g2) : passL a (fun n => g n || g2 n) = orL (passL a g) (passL a g2) := by
  have lp : (passL a g).length = (passL a g2).length := by rw [passL_len, passL_len]
  have p0 : 0 < a.length := by omega
  refine ls_ext (by rw [passL_len, orL_len lp, passL_len]) fun i hi => ?_
  rw [passL_len] at hi
  rw [passL_f sa hi, orL_f lp (passL_sml sa) (passL_sml sa) (by rw [passL_len]; exact hi), passL_f sa hi, passL_f sa hi]
  funext n
  rw [Bool.eq_iff_iff, Bool.or_eq_true, pass_iff (div12 h3) p0 sa (Sml.orc sg sg2), pass_iff (div12 h3) p0 sa sg, pass_iff (div12 h3) p0 sa sg2]
  simp only [Bool.or_eq_true]
  constructor
  · rintro ⟨s, j, hj, h1, h2, h4⟩
    exact h2.imp (fun z => ⟨s, j, hj, h1, z, h4⟩) fun z => ⟨s, j, hj, h1, z, h4⟩
  · rintro (⟨s, j, hj, h1, h2, h4⟩ | ⟨s, j, hj, h1, h2, h4⟩)
    · exact ⟨s, j, hj, h1, .inl h2, h4⟩
    · exact ⟨s, j, hj, h1, .inr h2, h4⟩
theorem sml_one {k : Nat} (hk : k < 5) : Sml fun n => decide (n ∈ [k]) := fun n hn => by
  show decide (n + 12 ∈ [k]) = decide (n ∈ [k])
  rw [decide_eq_false (by simp; omega), decide_eq_false (by simp; omega)]
theorem pass_zero (h3 : a.length = 1 ∨ a.length = 2 ∨ a.length = 3) (sa : ∀ o ∈ a, Sml o.f) : passL a (fun n => decide (n ∈ [0])) = a := by
  have p0 : 0 < a.length := by omega
  refine ls_ext passL_len fun i hi => ?_
  rw [passL_len] at hi
  rw [passL_f sa hi]
  funext n
  rw [Bool.eq_iff_iff, pass_iff (div12 h3) p0 sa (sml_one (by decide))]
  constructor
  · rintro ⟨s, j, hj, h1, h2, h4⟩
    obtain rfl : s = 0 := by simpa using h2
    rw [Nat.add_zero, Nat.mod_eq_of_lt hj] at h1
    subst h1
    exact h4
  · intro h4
    exact ⟨0, i, hi, Nat.mod_eq_of_lt hi, by simp, h4⟩
theorem pass_one (h3 : a.length = 1 ∨ a.length = 2 ∨ a.length = 3) (sa : ∀ o ∈ a, Sml o.f) : passL a (fun n => decide (n ∈ [1])) = nextL a := by
  have p0 : 0 < a.length := by omega
  refine ls_ext (by rw [passL_len, nextL_len]) fun i hi => ?_
  rw [passL_len] at hi
  rw [passL_f sa hi, nextL_f h3 sa hi]
  funext n
  have back : ∀ j, j < a.length → ((j + 1) % a.length = i ↔ j = (i + a.length - 1) % a.length) := fun j hj => by
    rcases h3 with z | z | z <;> rw [z] at hj hi ⊢ <;> omega
  rw [Bool.eq_iff_iff, pass_iff (div12 h3) p0 sa (sml_one (by decide))]
  constructor
  · rintro ⟨s, j, hj, h1, h2, h4⟩
    obtain rfl : s = 1 := by simpa using h2
    rw [(back j hj).mp h1] at h4
    exact h4
  · intro h4
    exact ⟨1, _, Nat.mod_lt _ p0, (back _ (Nat.mod_lt _ p0)).mpr rfl, by simp, h4⟩
theorem pass_none (h3 : a.length = 1 ∨ a.length = 2 ∨ a.length = 3) (sa : ∀ o ∈ a, Sml o.f) : ¬ ∃ o ∈ passL a (fun _ => false), ∃ n, o.f n = true := by
  have p0 : 0 < a.length := by omega
  rintro ⟨o, ho, n, hn⟩
  obtain ⟨i, hi⟩ := List.getElem?_of_mem ho
  have l := (List.getElem?_eq_some_iff.mp hi).1
  rw [passL_len] at l
  have e : o = (passL a fun _ => false).getD i noneL := by rw [List.getD_eq_getElem?_getD, hi]; rfl
  rw [e, passL_f sa l, pass_iff (div12 h3) p0 sa fun _ _ => rfl] at hn
  obtain ⟨s, j, _, _, h2, _⟩ := hn
  cases h2
/-- the sets of a union, place by place -/
theorem orL_row (h : a.length = b.length) : ((List.range a.length).map fun i => lsD (lsOf fun n => (a.getD i noneL).f n || (b.getD i noneL).f n)) = lsL (orL a b) := by
  unfold lsL orL
  refine List.ext_getElem? fun i => ?_
  by_cases c : i < a.length
  · have c2 : i < b.length := h ▸ c
    simp [c, c2, List.zip, List.getElem?_zipWith, List.getD_eq_getElem?_getD]
  · simp [c, List.zip]
    omega
theorem andL_row : ((List.range a.length).map fun i => lsD (lsOf fun n => (a.getD i noneL).f n && o.f n)) = lsL (andL a o) := by
  unfold lsL andL
  refine List.ext_getElem? fun i => ?_
  by_cases c : i < a.length
  · simp [c, List.getD_eq_getElem?_getD]
  · simp [c]
theorem fst_row (h : a.length = b.length) : ((a.zip b).map fun p => lsD p.1) = lsL a := by
  unfold lsL
  rw [show (fun p : LS × LS => lsD p.1) = lsD ∘ Prod.fst from rfl, ← List.map_map, List.map_fst_zip (by omega)]
end


open Sm
/-! ### the law on fronts side by side -/
abbrev s_lpairs : Stmt := (topS 32)
theorem sc_lpairs : FnScope ["one", "two", "at"] ["one", "two"] (defScope s_lpairs) := ⟨rfl, rfl, rfl, by decide +kernel, rfl, by decide +kernel, by decide +kernel⟩
abbrev s_law : Stmt := (topS 33)
theorem sc_law : FnScope ["script", "pool", "many", "ones", "twos", "is_in", "one_cell", "some", "other", "a", "b", "turn", "at", "pair"] ["script"] (defScope s_law) := ⟨rfl, rfl, rfl, by decide +kernel, rfl, by decide +kernel, by decide +kernel⟩
def spLaw : ASp := fun ds S Q _ => opt (one1 ds) fun d => ∃ ns : List Int, d = .scr ns ∧ ns.length ≤ 63 ∧ ∀ S', Q (.bl true) S'
theorem or_by {a b : List LS} {S : Sto} {Q : QD} {E : XQ} (h : a.length = b.length) (h0 : a ≠ []) (h1 : a.length ≤ 1000) (sa : ∀ o ∈ a, Sml o.f) (sb : ∀ o ∈ b, Sml o.f) (q : Q (frD (orL a b)) S) : spFor [frD a, frD b] S Q E := ⟨a, b, rfl, h, h0, h1, sa, sb, q⟩
theorem le_by {a b : List LS} {S : Sto} {Q : QD} {E : XQ} (h : a.length = b.length) (h1 : a.length ≤ 1000) (sa : ∀ o ∈ a, Sml o.f) (sb : ∀ o ∈ b, Sml o.f) (q : ∀ c : Bool, (c = true ↔ leL a b) → Q (.bl c) S) : spFle [frD a, frD b] S Q E := ⟨a, b, rfl, h, h1, sa, sb, q⟩
theorem and_by {a : List LS} {o : LS} {S : Sto} {Q : QD} {E : XQ} (h0 : a ≠ []) (h1 : a.length ≤ 1000) (sa : ∀ o ∈ a, Sml o.f) (so : Sml o.f) (q : Q (frD (andL a o)) S) : spFand [frD a, lsD o] S Q E := ⟨a, o, rfl, h0, h1, sa, so, q⟩
theorem feq_by {a b : List LS} {S : Sto} {Q : QD} {E : XQ} (h : a.length = b.length) (q : ∀ c : Bool, (c = true ↔ a = b) → Q (.bl c) S) : spFeq [frD a, frD b] S Q E := ⟨a, frD b, rfl, .inl ⟨b, rfl, h, q⟩⟩
theorem feq_no {a : List LS} {e : A.D} {S : Sto} {Q : QD} {E : XQ} (h : notLS S e) (hi : insOf S e "Front" = none) (q : Q (.bl false) S) : spFeq [frD a, e] S Q E := ⟨a, e, rfl, .inr ⟨h, hi, q⟩⟩
theorem pass_by {a : List LS} {o : LS} {S : Sto} {Q : QD} {E : XQ} (h0 : a ≠ []) (h12 : 12 % a.length = 0) (sa : ∀ o ∈ a, Sml o.f) (so : Sml o.f) (q : Q (frD (passL a o.f)) S) : spPassed [frD a, lsD o] S Q E := ⟨a, o, rfl, h0, h12, sa, so, q⟩
theorem pairs_by {a b : List LS} {S : Sto} {Q : QD} {E : XQ} (h : a.length = b.length) (h1 : a.length ≤ 1000) (q : Q (.lst ((a.zip b).map fun p => A.D.tup [lsD p.1, lsD p.2])) S) : spLpairs [frD a, frD b] S Q E := ⟨a, b, rfl, h, h1, q⟩
theorem read_by {a : List LS} {S : Sto} {Q : QD} {E : XQ} (h0 : a ≠ []) (h1 : a.length ≤ 1000) (q : Q (frD (nextL a)) S) : spFread [frD a] S Q E := ⟨a, rfl, h0, h1, q⟩
theorem made_fd {a p : Nat} {u v : Nat → Bool} {S : Sto} {Q : QD} {E : XQ} (ha : a ≤ 5) (p0 : 1 ≤ p) (p1 : p ≤ 4) (q : ∀ o : LS, Sml o.f → Q (lsD o) S) : spMade2 [fdD a p u v] S Q E := ⟨a, p, u, v, rfl, ha, p0, p1, fun o ho _ _ => q o (by rw [ho]; exact sml_fd ha p0 p1)⟩
section
variable {P : Program} {w : World} {K : PySem.W.Frag} {cA : Str → Addr} {mg : Str → Option Value} {base : Heap} {f : Addr} {fd : FuncData}
theorem d_lpairs (D : Dfn K mg "_law_pairs" s_lpairs ["one", "two"] f fd) (T : Bn mg) (mSe : Mtd P w K mg base 1 (cA "Front") "sets" (upSp ⟨K, cA⟩ spSets)) (pFp : Prp P w K mg base 1 (cA "Front") "period" (upSp ⟨K, cA⟩ spFper)) : Fnc P w K mg base 3 "_law_pairs" (upSp ⟨K, cA⟩ spLpairs) := by
  refine D.fnc (def_ok (k := 2) D.F sc_lpairs (fun cdv A outer s H E hr => (js_one (js_ret (j_lc (own := [("at", 2)]) (tt := aYes) (by rfl) sc_lpairs.nd (gl_name (i := 2) (by decide)) (ji_range1 rfl T.range (ja_cons (j_pr (C := "Front") pFp hr (by omega) (jv 0)) ja_nil)) (blkOk_by (own := [("at", 2)]) (N := ["one", "two", "at"]) (sc := defScope s_lpairs) (by decide +kernel)) (fun _ _ _ _ _ => (pg_name (i := 2) sc_lpairs.nd rfl (Or.inl rfl))) (fun _ _ _ _ _ => jts_nil) (fun _ _ _ _ _ => (j_tup (ja_cons (j_ix (kix_lt K) os_ix (j_me0 (C := "Front") mSe hr (by omega) (passN rfl rfl) (jv 0)) (jv 2) (fun _ _ => rfl)) (ja_cons (j_ix (kix_lt K) os_ix (j_me0 (C := "Front") mSe hr (by omega) (passN rfl rfl) (jv 1)) (jv 2) (fun _ _ => rfl)) ja_nil)))))))) ?_ ?_)
  · intro ds S Q E h
    obtain ⟨a, b, rfl, _⟩ := opt_two h
    rfl
  · intro ds S Q E h
    obtain ⟨x1, x2, rfl, os, os2, eq, hl, h1, q⟩ := opt_two h
    clear h
    cases eq
    have im : ∀ os, List.lookup ("sets" : Str) (frF os) = none := fun os => by simp [frF, List.lookup, ofString_beq]
    simp_arith [ins_fr, spFper]
    refine ⟨os, rfl, ?_⟩
    try simp_arith
    refine ⟨⟨by omega, by omega⟩, ?_⟩
    rw [Int.toNat_natCast]
    refine lc_rng (fun _ => true) (fun i => .tup [lsD (os.getD i noneL), lsD (os2.getD i noneL)]) (by omega) (fun i hi Y F hY _ => ?_) ?_
    · have a1 : atI (lsL os) (i : Int) = some (lsD (os.getD i noneL)) := atD (by simp [lsL, List.getD, hi])
      have a2 : atI (lsL os2) (i : Int) = some (lsD (os2.getD i noneL)) := atD (by have : i < os2.length := hl ▸ hi; simp [lsL, List.getD, this])
      simp_arith [ins_fr, im, spSets]
      refine ⟨os, rfl, ?_⟩
      simp_arith [a1, ins_fr, im, spSets]
      refine ⟨os2, rfl, ?_⟩
      simp_arith [a2]
      exact hY rfl
    · have e2 : List.map (fun i => A.D.tup [lsD (os.getD i noneL), lsD (os2.getD i noneL)]) (List.filter (fun _ => true) (List.range os.length)) = (os.zip os2).map fun p => A.D.tup [lsD p.1, lsD p.2] := by
        rw [List.filter_eq_self.mpr fun _ _ => rfl]
        refine List.ext_getElem? fun j => ?_
        by_cases c : j < os.length
        · have c2 : j < os2.length := hl ▸ c
          simp [c, c2, List.zip, List.getElem?_zipWith, List.getD_eq_getElem?_getD]
        · simp [c, List.zip]
          omega
      rw [e2]
      exact q
theorem d_law (D : Dfn K mg "law" s_law ["script"] f fd) (T : Bn mg) (L : LSc K cA mg) (FR : FSc K cA mg) (cPo : Fnc P w K mg base 1 "_law_pool" (upSp ⟨K, cA⟩ spPool)) (cD : Fnc P w K mg base 1 "_law_draw" (upSp ⟨K, cA⟩ spDraw)) (cFi : Fnc P w K mg base 3 "_law_fields" (upSp ⟨K, cA⟩ spFields))
    (cMa : Fnc P w K mg base 6 "_law_made" (upSp ⟨K, cA⟩ spMade2)) (cFr2 : Fnc P w K mg base 5 "_law_front" (upSp ⟨K, cA⟩ spLfront)) (cPr : Fnc P w K mg base 3 "_law_pairs" (upSp ⟨K, cA⟩ spLpairs))
    (mRe : Mtd P w K mg base 10 (cA "Front") "read" (upSp ⟨K, cA⟩ spFread)) (mPs : Mtd P w K mg base 10 (cA "Front") "passed" (upSp ⟨K, cA⟩ spPassed)) (mSe : Mtd P w K mg base 1 (cA "Front") "sets" (upSp ⟨K, cA⟩ spSets))
    (sOnly : StM P w K mg base 6 (cA "LengthSet") "only" (upSp ⟨K, cA⟩ (starSp 0 spOnly))) (sNone : StM P w K mg base 6 (cA "LengthSet") "none" (upSp ⟨K, cA⟩ spNone))
    (hOr : Own P w K mg base 8 (cA "LengthSet") "__or__" (upSp ⟨K, cA⟩ (spBin "or"))) (hAnd : Own P w K mg base 8 (cA "LengthSet") "__and__" (upSp ⟨K, cA⟩ (spBin "and"))) (hLe : Own P w K mg base 8 (cA "LengthSet") "__le__" (upSp ⟨K, cA⟩ spLeL)) (hEq : Own P w K mg base 1 (cA "LengthSet") "__eq__" (upSp ⟨K, cA⟩ spEqL)) (rEq : RtO K (cA "LengthSet") []) (sfLS : PySem.W.selfFirst K (cA "LengthSet") = true)
    (hOrF : Own P w K mg base 10 (cA "Front") "__or__" (upSp ⟨K, cA⟩ spFor)) (hAndF : Own P w K mg base 10 (cA "Front") "__and__" (upSp ⟨K, cA⟩ spFand)) (hLeF : Own P w K mg base 10 (cA "Front") "__le__" (upSp ⟨K, cA⟩ spFle)) (hEqF : Own P w K mg base 5 (cA "Front") "__eq__" (upSp ⟨K, cA⟩ spFeq)) (hBoolF : Own P w K mg base 5 (cA "Front") "__bool__" (upSp ⟨K, cA⟩ spFbool))
    (rF : RtO K (cA "Front") ["list", "tuple"]) (nFr : NeO K (cA "Front")) (sfF : PySem.W.selfFirst K (cA "Front") = true) (oth : Oth K (cA "Front") (cA "LengthSet") "and") :
    FnOk P w K mg base (L2N.CX P w) 13 f fd ["script"] (upSp ⟨K, cA⟩ spLaw) := by
  refine (def_ok (k := 12) D.F sc_law (fun cdv A outer s H E hr => (js_cons (js_set (i := 1) sc_law.nd rfl (Or.inr rfl) (j_fc cPo hr (by omega) rfl (L2N.passAt (L2N.takes_of rfl rfl rfl rfl)) (ja_cons (jv 0) (ja_cons j_int ja_nil))))
    (js_cons (js_set (i := 2) sc_law.nd rfl (Or.inl rfl) (j_op (op_addA K) os_add j_int (j_fc cD hr (by omega) rfl (L2N.passAt (L2N.takes_of rfl rfl rfl rfl)) (ja_cons (jv 1) (ja_cons j_int ja_nil)))))
    (js_cons (js_set (i := 3) sc_law.nd rfl (Or.inr rfl) (j_lc (own := [("turn", 11)]) (tt := aYes) (by rfl) sc_law.nd (gl_name (i := 11) (by decide)) (ji_range1 rfl T.range (ja_cons (jv 2) ja_nil)) (blkOk_by (own := [("turn", 11)]) (N := ["script", "pool", "many", "ones", "twos", "is_in", "one_cell", "some", "other", "a", "b", "turn", "at", "pair"]) (sc := defScope s_law) (by decide +kernel)) (fun _ _ _ _ _ => (pg_name (i := 11) sc_law.nd rfl (Or.inl rfl))) (fun _ _ _ _ _ => jts_nil) (fun _ _ _ _ _ => (j_fc cMa hr (by omega) rfl (passN rfl rfl) (ja_cons (j_fc cFi hr (by omega) rfl (passN rfl rfl) (ja_cons (jv 1) ja_nil)) ja_nil)))))
    (js_cons (js_set (i := 4) sc_law.nd rfl (Or.inr rfl) (j_lc (own := [("turn", 11)]) (tt := aYes) (by rfl) sc_law.nd (gl_name (i := 11) (by decide)) (ji_range1 rfl T.range (ja_cons (jv 2) ja_nil)) (blkOk_by (own := [("turn", 11)]) (N := ["script", "pool", "many", "ones", "twos", "is_in", "one_cell", "some", "other", "a", "b", "turn", "at", "pair"]) (sc := defScope s_law) (by decide +kernel)) (fun _ _ _ _ _ => (pg_name (i := 11) sc_law.nd rfl (Or.inl rfl))) (fun _ _ _ _ _ => jts_nil) (fun _ _ _ _ _ => (j_fc cMa hr (by omega) rfl (passN rfl rfl) (ja_cons (j_fc cFi hr (by omega) rfl (passN rfl rfl) (ja_cons (jv 1) ja_nil)) ja_nil)))))
    (js_cons (js_un (vs := [0, 1, 2, 3, 4, 5, 6, 7, 8, 9, 10, 11, 12, 13]) (gl_tup (m := 2) (gls_cons (gl_name (i := 7) (by decide)) (gls_cons (gl_name (i := 8) (by decide)) gls_nil))) (j_tup (ja_cons (j_fc cMa hr (by omega) rfl (L2N.passAt (L2N.takes_of rfl rfl rfl rfl)) (ja_cons (j_fc cFi hr (by omega) rfl (L2N.passAt (L2N.takes_of rfl rfl rfl rfl)) (ja_cons (jv 1) ja_nil)) ja_nil)) (ja_cons (j_fc cMa hr (by omega) rfl (L2N.passAt (L2N.takes_of rfl rfl rfl rfl)) (ja_cons (j_fc cFi hr (by omega) rfl (L2N.passAt (L2N.takes_of rfl rfl rfl rfl)) (ja_cons (jv 1) ja_nil)) ja_nil)) ja_nil))) (kpg_tup K (n := 2) rfl (pgs_cons (pg_name (i := 7) sc_law.nd rfl (Or.inr rfl)) (pgs_cons (pg_name (i := 8) sc_law.nd rfl (Or.inl rfl)) pgs_nil))))
    (js_cons (js_if (jt_cmp (op_eqA K hr.units) os_eq (j_fc cD hr (by omega) rfl (L2N.passAt (L2N.takes_of rfl rfl rfl rfl)) (ja_cons (jv 1) (ja_cons j_int ja_nil))) j_int (nomark _))
      (js_one (js_set (i := 4) sc_law.nd rfl (Or.inr rfl) (j_lc (own := [("at", 12)]) (tt := aYes) (by rfl) sc_law.nd (gl_name (i := 12) (by decide)) (ji_range1 rfl T.range (ja_cons (jv 2) ja_nil)) (blkOk_by (own := [("at", 12)]) (N := ["script", "pool", "many", "ones", "twos", "is_in", "one_cell", "some", "other", "a", "b", "turn", "at", "pair"]) (sc := defScope s_law) (by decide +kernel)) (fun _ _ _ _ _ => (pg_name (i := 12) sc_law.nd rfl (Or.inl rfl))) (fun _ _ _ _ _ => jts_nil) (fun _ _ _ _ _ => (j_binO (C := "LengthSet") hOr sfLS hr (by omega) (passN rfl rfl) (j_ix (kix_lt K) os_ix (jv 3) (jv 12) (fun _ _ => rfl)) (j_ix (kix_lt K) os_ix (jv 4) (jv 12) (fun _ _ => rfl)))))))
      js_nil)
    (js_cons (js_parU (i := 9) (j := 10) (.inl rfl) sc_law.nd rfl rfl (by decide) rfl rfl (ja_cons (j_fc cFr2 hr (by omega) rfl (L2N.passAt (L2N.takes_of rfl rfl rfl rfl)) (ja_cons (jv 3) ja_nil)) (ja_cons (j_fc cFr2 hr (by omega) rfl (L2N.passAt (L2N.takes_of rfl rfl rfl rfl)) (ja_cons (jv 4) ja_nil)) ja_nil)) (by rfl))
    (js_cons (js_set (i := 5) sc_law.nd rfl (Or.inl rfl) (j_cmp (op_eqA K hr.units) os_eq (j_lc (own := [("at", 12)]) (tt := _) (by rfl) sc_law.nd (gl_name (i := 12) (by decide)) (ji_range1 rfl T.range (ja_cons (jv 2) ja_nil)) (blkOk_by (own := [("at", 12)]) (N := ["script", "pool", "many", "ones", "twos", "is_in", "one_cell", "some", "other", "a", "b", "turn", "at", "pair"]) (sc := defScope s_law) (by decide +kernel)) (fun _ _ _ _ _ => (pg_name (i := 12) sc_law.nd rfl (Or.inl rfl))) (fun _ _ _ _ _ => (jts_one (jt_not (jt_cmp (kop_leO hLe hr (by omega)) (os_cmpO rEq) (j_ix (kix_lt K) os_ix (jv 3) (jv 12) (fun _ _ => rfl)) (j_ix (kix_lt K) os_ix (jv 4) (jv 12) (fun _ _ => rfl)) (nomark _))))) (fun _ _ _ _ _ => (jv 12))) (j_lst ja_nil) (nomark _)))
    (js_cons (js_if (JW.jt (jw_or (jt_cmp (op_neA K hr.units) os_ne (j_cmp (kop_leO hLeF hr (by omega)) (os_cmpO rF) (jv 9) (jv 10) (nomark _)) (jv 5) (nomark _)) (jw_or (jt_cmp (op_neA K hr.units) os_ne (j_cmp (kop_eqO hEqF hr (by omega)) (os_cmpO rF) (jv 9) (jv 10) (nomark _)) (j_cmp (kop_eqL hEq hr (by omega)) os_eqL (jv 3) (jv 4) (nomark _)) (nomark _)) (jw_or1 (jt_cmp (op_neA K hr.units) os_ne (j_cmp (kop_neO hEqF nFr hr (by omega)) (os_neO rF) (jv 9) (jv 10) (nomark _)) (j_cmp (kop_neL hEq hr (by omega)) os_eqL (jv 3) (jv 4) (nomark _)) (nomark _))))))
      (js_one (js_ret j_bl))
      js_nil)
    (js_cons (js_if (JW.jt (jw_or (jt_not (jt_cmp (kop_leO hLeF hr (by omega)) (os_cmpO rF) (jv 9) (j_binO (C := "Front") hOrF sfF hr (by omega) (L2N.passAt (L2N.takes_of rfl rfl rfl rfl)) (jv 9) (jv 10)) (nomark _))) (jw_or (jt_not (jt_cmp (kop_leO hLeF hr (by omega)) (os_cmpO rF) (jv 10) (j_binO (C := "Front") hOrF sfF hr (by omega) (L2N.passAt (L2N.takes_of rfl rfl rfl rfl)) (jv 9) (jv 10)) (nomark _))) (jw_or (jt_not (jt_cmp (kop_leO hLeF hr (by omega)) (os_cmpO rF) (j_bin2 (C := "Front") (C2 := "LengthSet") hAndF sfF oth hr (by omega) (L2N.passAt (L2N.takes_of rfl rfl rfl rfl)) (jv 9) (jv 7)) (jv 9) (nomark _))) (jw_or1 (jt_cmp (kop_neO hEqF nFr hr (by omega)) (os_neO rF) (j_binO (C := "Front") hOrF sfF hr (by omega) (L2N.passAt (L2N.takes_of rfl rfl rfl rfl)) (jv 9) (jv 10)) (j_binO (C := "Front") hOrF sfF hr (by omega) (L2N.passAt (L2N.takes_of rfl rfl rfl rfl)) (jv 10) (jv 9)) (nomark _)))))))
      (js_one (js_ret j_bl))
      js_nil)
    (js_cons (js_if (JW.jt (jw_or (jt_cmp (kop_eqO hEqF hr (by omega)) (os_cmpO rF) (jv 9) (jv 3) (nomark _)) (jw_or1 (jt_cmp (kop_eqO hEqF hr (by omega)) (os_cmpO rF) (jv 9) (j_me0 (C := "Front") mSe hr (by omega) (L2N.passAt (L2N.takes_of rfl rfl rfl rfl)) (jv 9)) (nomark _)))))
      (js_one (js_ret j_bl))
      js_nil)
    (js_cons (js_if (jt_cmp (kop_neL hEq hr (by omega)) os_eqL (j_lc (own := [("pair", 13)]) (tt := aYes) (by rfl) sc_law.nd (gl_name (i := 13) (by decide)) (ji_seq (j_fc cPr hr (by omega) rfl (L2N.passAt (L2N.takes_of rfl rfl rfl rfl)) (ja_cons (j_binO (C := "Front") hOrF sfF hr (by omega) (L2N.passAt (L2N.takes_of rfl rfl rfl rfl)) (jv 9) (jv 10)) (ja_cons (jv 9) ja_nil)))) (blkOk_by (own := [("pair", 13)]) (N := ["script", "pool", "many", "ones", "twos", "is_in", "one_cell", "some", "other", "a", "b", "turn", "at", "pair"]) (sc := defScope s_law) (by decide +kernel)) (fun _ _ _ _ _ => (pg_name (i := 13) sc_law.nd rfl (Or.inl rfl))) (fun _ _ _ _ _ => jts_nil) (fun _ _ _ _ _ => (j_ix (kix_lt K) os_ix (jv 13) j_int (fun _ _ => rfl)))) (j_lc (own := [("at", 12)]) (tt := aYes) (by rfl) sc_law.nd (gl_name (i := 12) (by decide)) (ji_range1 rfl T.range (ja_cons (jv 2) ja_nil)) (blkOk_by (own := [("at", 12)]) (N := ["script", "pool", "many", "ones", "twos", "is_in", "one_cell", "some", "other", "a", "b", "turn", "at", "pair"]) (sc := defScope s_law) (by decide +kernel)) (fun _ _ _ _ _ => (pg_name (i := 12) sc_law.nd rfl (Or.inl rfl))) (fun _ _ _ _ _ => jts_nil) (fun _ _ _ _ _ => (j_binO (C := "LengthSet") hOr sfLS hr (by omega) (passN rfl rfl) (j_ix (kix_lt K) os_ix (jv 3) (jv 12) (fun _ _ => rfl)) (j_ix (kix_lt K) os_ix (jv 4) (jv 12) (fun _ _ => rfl))))) (nomark _))
      (js_one (js_ret j_bl))
      js_nil)
    (js_cons (js_if (jt_cmp (kop_neL hEq hr (by omega)) os_eqL (j_lc (own := [("pair", 13)]) (tt := aYes) (by rfl) sc_law.nd (gl_name (i := 13) (by decide)) (ji_seq (j_fc cPr hr (by omega) rfl (L2N.passAt (L2N.takes_of rfl rfl rfl rfl)) (ja_cons (j_bin2 (C := "Front") (C2 := "LengthSet") hAndF sfF oth hr (by omega) (L2N.passAt (L2N.takes_of rfl rfl rfl rfl)) (jv 9) (jv 7)) (ja_cons (jv 9) ja_nil)))) (blkOk_by (own := [("pair", 13)]) (N := ["script", "pool", "many", "ones", "twos", "is_in", "one_cell", "some", "other", "a", "b", "turn", "at", "pair"]) (sc := defScope s_law) (by decide +kernel)) (fun _ _ _ _ _ => (pg_name (i := 13) sc_law.nd rfl (Or.inl rfl))) (fun _ _ _ _ _ => jts_nil) (fun _ _ _ _ _ => (j_ix (kix_lt K) os_ix (jv 13) j_int (fun _ _ => rfl)))) (j_lc (own := [("at", 12)]) (tt := aYes) (by rfl) sc_law.nd (gl_name (i := 12) (by decide)) (ji_range1 rfl T.range (ja_cons (jv 2) ja_nil)) (blkOk_by (own := [("at", 12)]) (N := ["script", "pool", "many", "ones", "twos", "is_in", "one_cell", "some", "other", "a", "b", "turn", "at", "pair"]) (sc := defScope s_law) (by decide +kernel)) (fun _ _ _ _ _ => (pg_name (i := 12) sc_law.nd rfl (Or.inl rfl))) (fun _ _ _ _ _ => jts_nil) (fun _ _ _ _ _ => (j_binO (C := "LengthSet") hAnd sfLS hr (by omega) (passN rfl rfl) (j_ix (kix_lt K) os_ix (jv 3) (jv 12) (fun _ _ => rfl)) (jv 7)))) (nomark _))
      (js_one (js_ret j_bl))
      js_nil)
    (js_cons (js_if (jt_cmp (kop_neO hEqF nFr hr (by omega)) (os_neO rF) (j_me0 (C := "Front") mRe hr (by omega) (L2N.passAt (L2N.takes_of rfl rfl rfl rfl)) (j_binO (C := "Front") hOrF sfF hr (by omega) (L2N.passAt (L2N.takes_of rfl rfl rfl rfl)) (jv 9) (jv 10))) (j_binO (C := "Front") hOrF sfF hr (by omega) (L2N.passAt (L2N.takes_of rfl rfl rfl rfl)) (j_me0 (C := "Front") mRe hr (by omega) (L2N.passAt (L2N.takes_of rfl rfl rfl rfl)) (jv 9)) (j_me0 (C := "Front") mRe hr (by omega) (L2N.passAt (L2N.takes_of rfl rfl rfl rfl)) (jv 10))) (nomark _))
      (js_one (js_ret j_bl))
      js_nil)
    (js_cons (js_if (jt_cmp (kop_neO hEqF nFr hr (by omega)) (os_neO rF) (j_me (C := "Front") mPs hr (by omega) (L2N.passAt (L2N.takes_of rfl rfl rfl rfl)) (j_binO (C := "Front") hOrF sfF hr (by omega) (L2N.passAt (L2N.takes_of rfl rfl rfl rfl)) (jv 9) (jv 10)) (ja_cons (jv 7) ja_nil)) (j_binO (C := "Front") hOrF sfF hr (by omega) (L2N.passAt (L2N.takes_of rfl rfl rfl rfl)) (j_me (C := "Front") mPs hr (by omega) (L2N.passAt (L2N.takes_of rfl rfl rfl rfl)) (jv 9) (ja_cons (jv 7) ja_nil)) (j_me (C := "Front") mPs hr (by omega) (L2N.passAt (L2N.takes_of rfl rfl rfl rfl)) (jv 10) (ja_cons (jv 7) ja_nil))) (nomark _))
      (js_one (js_ret j_bl))
      js_nil)
    (js_cons (js_if (jt_cmp (kop_neO hEqF nFr hr (by omega)) (os_neO rF) (j_me (C := "Front") mPs hr (by omega) (L2N.passAt (L2N.takes_of rfl rfl rfl rfl)) (jv 9) (ja_cons (j_binO (C := "LengthSet") hOr sfLS hr (by omega) (L2N.passAt (L2N.takes_of rfl rfl rfl rfl)) (jv 7) (jv 8)) ja_nil)) (j_binO (C := "Front") hOrF sfF hr (by omega) (L2N.passAt (L2N.takes_of rfl rfl rfl rfl)) (j_me (C := "Front") mPs hr (by omega) (L2N.passAt (L2N.takes_of rfl rfl rfl rfl)) (jv 9) (ja_cons (jv 7) ja_nil)) (j_me (C := "Front") mPs hr (by omega) (L2N.passAt (L2N.takes_of rfl rfl rfl rfl)) (jv 9) (ja_cons (jv 8) ja_nil))) (nomark _))
      (js_one (js_ret j_bl))
      js_nil)
    (js_cons (js_set (i := 6) sc_law.nd rfl (Or.inl rfl) (j_me (C := "Front") mPs hr (by omega) (L2N.passAt (L2N.takes_of rfl rfl rfl rfl)) (jv 9) (ja_cons (j_sm (C := "LengthSet") sOnly hr (by omega) (L2N.passAt (L2N.takes_of rfl rfl rfl rfl)) (j_gcls (by rfl) L.gl) (ja_cons j_int ja_nil)) ja_nil)))
    (js_cons (js_if (JW.jt (jw_or (jt_cmp (kop_neO hEqF nFr hr (by omega)) (os_neO rF) (j_me (C := "Front") mPs hr (by omega) (L2N.passAt (L2N.takes_of rfl rfl rfl rfl)) (jv 9) (ja_cons (j_sm (C := "LengthSet") sOnly hr (by omega) (L2N.passAt (L2N.takes_of rfl rfl rfl rfl)) (j_gcls (by rfl) L.gl) (ja_cons j_int ja_nil)) ja_nil)) (jv 9) (nomark _)) (jw_or1 (jt_val (j_callTy (call_boolO hBoolF hr (by omega)) cs_boolO (by rfl) T.bool (by decide +kernel) (ja_cons (j_me (C := "Front") mPs hr (by omega) (L2N.passAt (L2N.takes_of rfl rfl rfl rfl)) (jv 9) (ja_cons (j_sm0 (C := "LengthSet") sNone hr (by omega) (L2N.passAt (L2N.takes_of rfl rfl rfl rfl)) (j_gcls (by rfl) L.gl)) ja_nil)) ja_nil))))))
      (js_one (js_ret j_bl))
      js_nil)
    (js_one (js_ret (j_cmp (kop_eqO hEqF hr (by omega)) (os_cmpO rF) (jv 6) (j_me0 (C := "Front") mRe hr (by omega) (L2N.passAt (L2N.takes_of rfl rfl rfl rfl)) (jv 9)) (nomark _))))))))))))))))))))))) ?_ ?_)
  · intro ds S Q E h
    obtain ⟨a, rfl, _⟩ := opt_one h
    rfl
  · intro ds S Q E h
    obtain ⟨x1, rfl, ns, rfl, hl, q⟩ := opt_one h
    clear h
    refine seq_by fun N1 hN1 => ?_
    simp_arith [spPool]
    refine ⟨ns, 0, rfl, by decide, fun o ho => hN1 _ _ ?_⟩
    clear hN1
    have hp : Pl (S ++ [o]) S.length := ⟨o, by simp, ho⟩
    generalize S ++ [o] = S0 at *
    refine seq_by fun N1 hN1 => ?_
    simp_arith [spDraw]
    refine ⟨_, 3, rfl, hp, by decide, by decide, fun d S1 d0 d1 _ hp1 => ?_⟩
    obtain ⟨d, rfl⟩ := Int.eq_ofNat_of_zero_le d0
    have e1 : (1 : Int) + (d : Int) = ((d + 1 : Nat) : Int) := by omega
    simp_arith [e1]
    refine hN1 _ _ ?_
    clear hN1
    have many : ∀ (g : AG) (tt : AM Bool) (te : AM A.D) (ρ : Ev) (S2 : Sto) (Q : List A.D → Sto → Prop), Pl S2 S.length → (∀ (i : Nat) (S3 : Sto) (Y : A.D → Sto → Prop) (F : Sto → Prop), Pl S3 S.length → (∀ (o : LS) (S4 : Sto), Sml o.f → Pl S4 S.length → Y (lsD o) S4) → g (.int (i : Int)) ρ fun ρ2 => tt ρ2 S3 (fun b S4 => if b = true then te ρ2 S4 Y (fun _ _ => False) else F S4) fun _ _ => False) →
        (∀ (os : List LS) (S3 : Sto), os.length = d + 1 → (∀ o ∈ os, Sml o.f) → Pl S3 S.length → Q (lsL os) S3) → lcX g tt te ρ Q (rng 0 (d + 1)) [] S2 := by
      intro g tt te ρ S2 Q hp2 hs hq
      refine lc_rngI (fun i acc S' => ∃ os : List LS, acc = lsL os ∧ os.length = i ∧ (∀ o ∈ os, Sml o.f) ∧ Pl S' S.length) ?_ ?_ ⟨[], rfl, rfl, fun _ h => by simp at h, hp2⟩
      · rintro acc S' ⟨os, rfl, h1, h2, h3⟩
        exact hq os S' h1 h2 h3
      · rintro i acc S' hi ⟨os, rfl, h1, h2, h3⟩ F hF
        refine hs i S' (fun y S4 => (lsL os).length < big ∧ F (lsL os ++ [y]) S4) (fun S4 => F (lsL os) S4) h3 fun o S4 ho hp4 => ⟨by simp only [lsL, List.length_map]; unfold big; omega, hF _ _ ⟨os ++ [o], by simp [lsL], by simp [h1], fun z hz => ?_, hp4⟩⟩
        rcases List.mem_append.mp hz with hz | hz
        · exact h2 z hz
        · obtain rfl := List.mem_singleton.mp hz
          exact ho
    refine seq_by fun N1 hN1 => ?_
    simp_arith
    refine ⟨⟨by omega, by omega⟩, ?_⟩
    rw [Int.toNat_natCast]
    refine many _ _ _ _ _ _ hp1 (fun i S3 Y F hp3 hY => ?_) fun ao S2 la sa hp2 => ?_
    · simp_arith [spFields]
      refine ⟨_, rfl, hp3, fun a p u v S4 ha p0 p1 _ hp4 => made_fd ha p0 p1 fun o ho => hY o S4 ho hp4⟩
    refine hN1 _ _ ?_
    clear hN1
    refine seq_by fun N1 hN1 => ?_
    simp_arith
    refine ⟨⟨by omega, by omega⟩, ?_⟩
    rw [Int.toNat_natCast]
    refine many _ _ _ _ _ _ hp2 (fun i S3 Y F hp3 hY => ?_) fun bo S3 lb sb hp3 => ?_
    · simp_arith [spFields]
      refine ⟨_, rfl, hp3, fun a p u v S4 ha p0 p1 _ hp4 => made_fd ha p0 p1 fun o ho => hY o S4 ho hp4⟩
    refine hN1 _ _ ?_
    clear hN1 many
    refine seq_by fun N1 hN1 => ?_
    simp_arith [spFields]
    refine ⟨_, rfl, hp3, fun a p u v S4 ha p0 p1 _ hp4 => made_fd ha p0 p1 fun so sso => ?_⟩
    try simp_arith
    refine ⟨_, rfl, hp4, fun a p u v S5 ha p0 p1 _ hp5 => made_fd ha p0 p1 fun oo soo => ?_⟩
    try simp_arith
    refine hN1 _ _ ?_
    clear hN1
    refine seq_by fun N1 hN1 => ?_
    have key : ∀ (bo : List LS) (S' : Sto), bo.length = d + 1 → (∀ o ∈ bo, Sml o.f) → N1 [some (.scr ns), some (.ref S.length), some (.int ((d + 1 : Nat) : Int)), some (.lst (lsL ao)), some (.lst (lsL bo)), none, none, some (lsD so), some (lsD oo), none, none, none, none, none] S' := fun bo S' lb sb => hN1 _ _ (by
      clear hN1
      have hl2 : ao.length = bo.length := by omega
      have al3 := len3_of la (by omega)
      have bl3 := len3_of lb (by omega)
      refine seq_by fun N1 hN1 => ?_
      simp_arith [spLfront]
      refine ⟨ao, rfl, al3, bo, rfl, bl3, ?_⟩
      try simp_arith
      refine hN1 _ _ ?_
      clear hN1
      have at1 : ∀ i, i < d + 1 → atI (lsL ao) ((i : Nat) : Int) = some (lsD (ao.getD i noneL)) := fun i hi => atD (by simp [lsL, List.getD, la, hi])
      have at2 : ∀ i, i < d + 1 → atI (lsL bo) ((i : Nat) : Int) = some (lsD (bo.getD i noneL)) := fun i hi => atD (by simp [lsL, List.getD, lb, hi])
      classical
      refine seq_by fun N1 hN1 => ?_
      simp_arith
      refine ⟨⟨by omega, by omega⟩, ?_⟩
      rw [Int.toNat_natCast]
      refine lc_rng (fun i => decide (¬ ∀ n, (ao.getD i noneL).f n = true → (bo.getD i noneL).f n = true)) (fun i => .int (i : Int)) (by omega) (fun i hi Y F hY hF => ?_) ?_
      · simp_arith [at1 i hi, at2 i hi, dCmpO, ins_ls, spLeL, rightOk]
        refine ⟨.inl ⟨_, rfl⟩, _, _, rfl, sml_lcm (sml_getD sa i) (sml_getD sb i), fun b hb => ?_⟩
        try simp_arith
        cases b with
        | true => exact hF (decide_eq_false fun z => z (hb.mp rfl))
        | false => exact hY (decide_eq_true fun z => by have := hb.mpr z; cases this)
      rw [int_flt]
      try simp_arith
      refine ⟨⟨dat_flt, rfl⟩, ?_⟩
      have hin : eqD (.lst (fltD (fun i => decide (¬ ∀ n, (ao.getD i noneL).f n = true → (bo.getD i noneL).f n = true)) (d + 1))) (.lst []) = true ↔ leL ao bo := by
        rw [eq_nilD, decide_eq_true_eq, flt_nil, leL_iff hl2, la]
        simp only [decide_eq_false_iff_not, Classical.not_not]
      generalize eqD (.lst (fltD (fun i => decide (¬ ∀ n, (ao.getD i noneL).f n = true → (bo.getD i noneL).f n = true)) (d + 1))) (.lst []) = isin at hin ⊢
      refine hN1 _ _ ?_
      clear hN1
      refine seq_by fun N1 hN1 => ?_
      simp_arith [dCmpO, ins_fr, spFle, rightOk]
      refine ⟨.inl ⟨_, rfl⟩, ao, bo, rfl, hl2, by omega, sa, sb, fun b hb => iteN (fun z => z (by rw [Bool.eq_iff_iff, hb, hin])) ⟨.inl ⟨_, rfl⟩, ?_⟩⟩
      simp_arith [spFeq]
      refine ⟨ao, frD bo, rfl, .inl ⟨bo, rfl, hl2, fun b2 hb2 => ?_⟩⟩
      refine ⟨_, _, ⟨rfl, rfl⟩, eqI_ls hl2 fun b3 hb3 => ?_⟩
      try simp_arith
      refine iteN (fun z => z (by rw [Bool.eq_iff_iff, hb2, hb3])) ?_
      simp_arith [dNeO, ins_fr, rightOk]
      refine ⟨.inl ⟨_, rfl⟩, feq_by hl2 fun b4 hb4 => ?_⟩
      try simp_arith
      refine ⟨_, _, ⟨rfl, rfl⟩, eqI_ls hl2 fun b5 hb5 => ?_⟩
      try simp_arith
      refine iteN (fun z => z (by rw [show b4 = b5 by rw [Bool.eq_iff_iff, hb4, hb5]])) ?_
      refine hN1 _ _ ?_
      clear hN1
      have a0 : ao ≠ [] := fun z => by rw [z] at la; simp at la
      have b0 : bo ≠ [] := fun z => by rw [z] at lb; simp at lb
      have lo : (orL ao bo).length = ao.length := orL_len hl2
      have lo2 : (orL bo ao).length = bo.length := orL_len hl2.symm
      have sor : ∀ o ∈ orL ao bo, Sml o.f := orL_sml hl2 sa sb
      have san : ∀ o ∈ andL ao so, Sml o.f := andL_sml sa sso
      have lan : (andL ao so).length = ao.length := andL_len
      have k1 : ao.length ≤ 1000 := by omega
      have k2 : bo.length ≤ 1000 := by omega
      have o0 : orL ao bo ≠ [] := fun z => by rw [z] at lo; simp at lo; omega
      refine seq_by fun N1 hN1 => ?_
      simp_arith [dCmpO, aBinO, aBin2, dNeO, ins_fr, ins_ls, rightOk]
      refine ⟨⟨_, rfl⟩, or_by hl2 a0 k1 sa sb ⟨.inl ⟨_, ins_fr⟩, le_by lo.symm k1 sa sor fun c1 h1 => ?_⟩⟩
      obtain rfl : c1 = true := h1.mpr (le_or1 hl2 sa sb)
      try simp_arith
      refine ⟨⟨_, rfl⟩, or_by hl2 a0 k1 sa sb ⟨.inl ⟨_, ins_fr⟩, le_by (by rw [lo, hl2]) k2 sb sor fun c2 h2 => ?_⟩⟩
      obtain rfl : c2 = true := h2.mpr (le_or2 hl2 sa sb)
      try simp_arith
      refine ⟨⟨_, rfl⟩, and_by a0 k1 sa sso ?_⟩
      simp_arith [ins_fr]
      refine ⟨.inl ⟨_, rfl⟩, le_by lan (by omega) san sa fun c3 h3 => ?_⟩
      obtain rfl : c3 = true := h3.mpr (le_and sa sso)
      try simp_arith
      refine ⟨⟨_, rfl⟩, or_by hl2 a0 k1 sa sb ⟨⟨_, rfl⟩, or_by hl2.symm b0 k2 sb sa ?_⟩⟩
      simp_arith [ins_fr]
      refine ⟨.inl ⟨_, rfl⟩, feq_by (by rw [lo, lo2, hl2]) fun c4 h4 => ?_⟩
      obtain rfl : c4 = true := h4.mpr (orL_comm hl2 sa sb)
      try simp_arith
      refine hN1 _ _ ?_
      clear hN1
      have im : ∀ os, List.lookup ("sets" : Str) (frF os) = none := fun os => by simp [frF, List.lookup, ofString_beq]
      refine seq_by fun N1 hN1 => ?_
      simp_arith [dCmpO, ins_fr, rightOk, im, spSets]
      refine ⟨.inr ⟨"list", rfl, by simp⟩, feq_no ⟨"list", rfl, by simp⟩ rfl ?_⟩
      try simp_arith
      refine ⟨ao, rfl, .inr ⟨"tuple", rfl, by simp⟩, feq_no ⟨"tuple", rfl, by simp⟩ rfl ?_⟩
      try simp_arith
      refine hN1 _ _ ?_
      clear hN1
      refine seq_by fun N1 hN1 => ?_
      simp_arith [aBinO, ins_fr]
      refine ⟨⟨_, rfl⟩, or_by hl2 a0 k1 sa sb (pairs_by lo (by omega) ?_)⟩
      try simp_arith
      refine lc_onT (fun p => lsD p.1) (by rw [List.length_zip]; omega) (fun p hp Y F hY => ?_) ?_
      · simp_arith
        exact hY
      rw [fst_row lo]
      refine ⟨⟨by omega, by omega⟩, ?_⟩
      rw [Int.toNat_natCast]
      refine lc_rng (fun _ => true) (fun i => lsD (lsOf fun n => (ao.getD i noneL).f n || (bo.getD i noneL).f n)) (by omega) (fun i hi Y F hY _ => ?_) ?_
      · simp_arith [aBinO, at1 i hi, at2 i hi, ins_ls]
        refine ⟨⟨_, rfl⟩, bin_by (sml_getD sa i) (sml_getD sb i) fun r hr => ?_⟩
        rw [ls_eq (hr.trans (funext fun n => jop_or))]
        exact hY rfl
      have er : List.map (fun i => lsD (lsOf fun n => (ao.getD i noneL).f n || (bo.getD i noneL).f n)) (List.filter (fun _ => true) (List.range (d + 1))) = lsL (orL ao bo) := by
        rw [List.filter_eq_self.mpr fun _ _ => rfl, ← la]
        exact orL_row (by omega)
      rw [er]
      refine ⟨_, _, ⟨rfl, rfl⟩, eqI_ls rfl fun b6 hb6 => ?_⟩
      obtain rfl : b6 = true := hb6.mpr rfl
      try simp_arith
      refine hN1 _ _ ?_
      clear hN1
      refine seq_by fun N1 hN1 => ?_
      simp_arith [aBin2, ins_fr, ins_ls]
      refine ⟨⟨_, rfl⟩, and_by a0 k1 sa sso (pairs_by lan (by omega) ?_)⟩
      try simp_arith
      refine lc_onT (fun p => lsD p.1) (by rw [List.length_zip]; omega) (fun p hp Y F hY => ?_) ?_
      · simp_arith
        exact hY
      rw [fst_row lan]
      refine ⟨⟨by omega, by omega⟩, ?_⟩
      rw [Int.toNat_natCast]
      refine lc_rng (fun _ => true) (fun i => lsD (lsOf fun n => (ao.getD i noneL).f n && so.f n)) (by omega) (fun i hi Y F hY _ => ?_) ?_
      · simp_arith [aBinO, at1 i hi, ins_ls]
        refine ⟨⟨_, rfl⟩, bin_by (sml_getD sa i) sso fun r hr => ?_⟩
        rw [ls_eq (hr.trans (funext fun n => jop_and))]
        exact hY rfl
      have er2 : List.map (fun i => lsD (lsOf fun n => (ao.getD i noneL).f n && so.f n)) (List.filter (fun _ => true) (List.range (d + 1))) = lsL (andL ao so) := by
        rw [List.filter_eq_self.mpr fun _ _ => rfl, ← la]
        exact andL_row
      rw [er2]
      refine ⟨_, _, ⟨rfl, rfl⟩, eqI_ls rfl fun b7 hb7 => ?_⟩
      obtain rfl : b7 = true := hb7.mpr rfl
      try simp_arith
      refine hN1 _ _ ?_
      clear hN1
      have ird : ∀ os, List.lookup ("read" : Str) (frF os) = none := fun os => by simp [frF, List.lookup, ofString_beq]
      have ips : ∀ os, List.lookup ("passed" : Str) (frF os) = none := fun os => by simp [frF, List.lookup, ofString_beq]
      refine seq_by fun N1 hN1 => ?_
      simp_arith [aBinO, dNeO, rightOk, ird, ins_fr]
      have na0 : (nextL ao).length = ao.length := nextL_len
      have nb0 : (nextL bo).length = bo.length := nextL_len
      have sna := nextL_sml al3 sa
      have snb := nextL_sml bl3 sb
      have ne : ∀ {l : List LS}, l.length = ao.length → l ≠ [] := fun h z => by rw [z] at h; simp at h; omega
      refine ⟨⟨_, rfl⟩, or_by hl2 a0 k1 sa sb ?_⟩
      simp_arith [ins_fr, ird]
      refine read_by o0 (by omega) (read_by a0 k1 (read_by b0 k2 ?_))
      simp_arith [ins_fr]
      refine ⟨⟨_, rfl⟩, or_by (by omega) (ne na0) (by omega) sna snb ?_⟩
      simp_arith [ins_fr]
      refine ⟨.inl ⟨_, rfl⟩, feq_by (by rw [nextL_len, lo, orL_len (na0.trans (hl2.trans nb0.symm)), na0]) fun c5 h5 => ?_⟩
      obtain rfl : c5 = true := h5.mpr (next_or al3 hl2 sa sb)
      try simp_arith
      refine hN1 _ _ ?_
      clear hN1
      have pla : ∀ g, (passL ao g).length = ao.length := fun g => passL_len
      have plb : ∀ g, (passL bo g).length = bo.length := fun g => passL_len
      have spa : ∀ g, ∀ o ∈ passL ao g, Sml o.f := fun g => passL_sml sa
      have spb : ∀ g, ∀ o ∈ passL bo g, Sml o.f := fun g => passL_sml sb
      refine seq_by fun N1 hN1 => ?_
      simp_arith [aBinO, dNeO, rightOk, ips, ins_fr]
      refine ⟨⟨_, rfl⟩, or_by hl2 a0 k1 sa sb ?_⟩
      simp_arith [ins_fr, ips]
      refine pass_by o0 (by rw [lo]; exact div12 al3) sor sso (pass_by a0 (div12 al3) sa sso (pass_by b0 (div12 bl3) sb sso ?_))
      simp_arith [ins_fr]
      refine ⟨⟨_, rfl⟩, or_by ((pla _).trans (hl2.trans (plb _).symm)) (ne (pla _)) (by rw [pla]; omega) (spa _) (spb _) ?_⟩
      simp_arith [ins_fr]
      refine ⟨.inl ⟨_, rfl⟩, feq_by (by rw [passL_len, lo, orL_len ((pla _).trans (hl2.trans (plb _).symm)), pla]) fun c6 h6 => ?_⟩
      obtain rfl : c6 = true := h6.mpr (pass_or al3 hl2 sa sb sso)
      try simp_arith
      refine hN1 _ _ ?_
      clear hN1
      refine seq_by fun N1 hN1 => ?_
      simp_arith [aBinO, dNeO, rightOk, ips, ins_fr, ins_ls]
      refine ⟨⟨_, rfl⟩, bin_by sso soo fun r hr => ?_⟩
      have hr : r.f = fun n => so.f n || oo.f n := hr.trans (funext fun n => jop_or)
      have sr : Sml r.f := by rw [hr]; exact Sml.orc sso soo
      refine pass_by a0 (div12 al3) sa sr (pass_by a0 (div12 al3) sa sso (pass_by a0 (div12 al3) sa soo ?_))
      simp_arith [ins_fr]
      refine ⟨⟨_, rfl⟩, or_by ((pla _).trans (pla _).symm) (ne (pla _)) (by rw [pla]; omega) (spa _) (spa _) ?_⟩
      simp_arith [ins_fr]
      refine ⟨.inl ⟨_, rfl⟩, feq_by (by rw [passL_len, orL_len ((pla _).trans (pla _).symm), pla]) fun c7 h7 => ?_⟩
      obtain rfl : c7 = true := h7.mpr (by rw [hr]; exact pass_two al3 sa sso soo)
      try simp_arith
      refine hN1 _ _ ?_
      clear hN1
      have only : ∀ (k : Nat) (S : Sto) (Q : QD) (E : XQ), k < 5 → (∀ r : LS, r.f = (fun n => decide (n ∈ [k])) → Q (lsD r) S) → starSp 0 spOnly [.int (k : Int)] S Q E := fun k S Q E hk qq => ⟨[], [.int (k : Int)], rfl, rfl, by simp [big], [.int (k : Int)], rfl, by simp, .inr ⟨[k], rfl, fun ⟨n, hn, h5⟩ => by have := List.mem_singleton.mp hn; omega, fun _ r hr => qq r hr⟩⟩
      refine seq_by fun N1 hN1 => ?_
      simp_arith [ips, ins_fr]
      refine only 1 _ _ _ (by decide) fun r1 hr1 => ?_
      try simp_arith
      refine pass_by a0 (div12 al3) sa (by rw [hr1]; exact sml_one (by decide)) ?_
      refine hN1 _ _ ?_
      clear hN1
      refine seq_by fun N1 hN1 => ?_
      simp_arith [dNeO, rightOk, ips, ins_fr, spNone, fBoolO]
      refine only 0 _ _ _ (by decide) fun r0 hr0 => ?_
      try simp_arith
      refine pass_by a0 (div12 al3) sa (by rw [hr0]; exact sml_one (by decide)) ?_
      simp_arith [ins_fr]
      refine ⟨.inl ⟨_, rfl⟩, feq_by passL_len fun c8 h8 => ?_⟩
      obtain rfl : c8 = true := h8.mpr (by rw [hr0]; exact pass_zero al3 sa)
      try simp_arith
      intro rn hrn
      refine pass_by a0 (div12 al3) sa (by rw [hrn]; exact fun _ _ => rfl) ?_
      simp_arith [ins_fr, spFbool]
      refine ⟨_, rfl, by rw [pla]; omega, fun c9 h9 => ?_⟩
      obtain rfl : c9 = false := by
        cases c9 with
        | false => rfl
        | true => exact absurd (h9.mp rfl) (by rw [hrn]; exact pass_none al3 sa)
      try simp_arith
      refine hN1 _ _ ?_
      clear hN1
      simp_arith [dCmpO, rightOk, ird, ins_fr]
      refine read_by a0 k1 ?_
      simp_arith [ins_fr]
      refine ⟨.inl ⟨_, rfl⟩, feq_by (by rw [pla, na0]) fun c h => ?_⟩
      obtain rfl : c = true := h.mpr (by rw [hr1]; exact pass_one al3 sa)
      exact q _)
    clear hN1
    simp_arith [spDraw]
    refine ⟨_, 3, rfl, hp5, by decide, by decide, fun e S6 _ _ _ hp6 => ?_⟩
    try simp_arith
    by_cases c : e = 0
    · rw [if_pos c]
      refine ⟨⟨by omega, by omega⟩, ?_⟩
      rw [Int.toNat_natCast]
      refine lc_rng (fun _ => true) (fun i => lsD (lsOf fun n => (ao.getD i noneL).f n || (bo.getD i noneL).f n)) (by omega) (fun i hi Y F hY _ => ?_) ?_
      · have at1 : atI (lsL ao) ((i : Nat) : Int) = some (lsD (ao.getD i noneL)) := atD (by simp [lsL, List.getD, la, hi])
        have at2 : atI (lsL bo) ((i : Nat) : Int) = some (lsD (bo.getD i noneL)) := atD (by simp [lsL, List.getD, lb, hi])
        simp_arith [aBinO, at1, at2, ins_ls]
        refine ⟨⟨_, rfl⟩, bin_by (sml_getD sa i) (sml_getD sb i) fun r hr => ?_⟩
        rw [ls_eq (hr.trans (funext fun n => jop_or))]
        exact hY rfl
      have er : List.map (fun i => lsD (lsOf fun n => (ao.getD i noneL).f n || (bo.getD i noneL).f n)) (List.filter (fun _ => true) (List.range (d + 1))) = lsL (orL ao bo) := by
        rw [List.filter_eq_self.mpr fun _ _ => rfl, ← la]
        exact orL_row (by omega)
      rw [er]
      exact key _ _ (by rw [orL_len (by omega)]; exact la) (orL_sml (by omega) sa sb)
    · rw [if_neg c]
      exact key _ _ lb sb
end


theorem all_mk {l : PySem.W.OpenLaw} {w : World} {K : PySem.W.Frag} {h : Heap} {mg : Str → Option Value} {fa f_count f_asc f_check f_flags f_sper f_short f_gcd f_ofFlags f_frame f_joined f_isshift f_gone f_pool f_draw f_lsome f_lfields f_lmade f_lfront f_lpairs f_law f_sinit f_scont f_seq f_sle f_sbool f_sor f_sand f_sinv f_ssub f_sadd f_sradd f_pstart f_pperiod f_below f_snone f_only f_finit f_fread f_fpassed f_fsets f_fperiod f_fbool f_feq f_for f_fand f_fle p_pstart p_pperiod p_snone p_only p_fperiod a_LengthSet a_Front a_NoSet a_TooLarge : Addr} {t1 t2 t3 : Tok}
    {od_count an_count od_asc an_asc od_check an_check od_flags an_flags od_sper an_sper od_short an_short od_gcd an_gcd od_ofFlags an_ofFlags od_frame an_frame od_joined an_joined od_isshift an_isshift od_gone an_gone od_pool an_pool od_draw an_draw od_lsome an_lsome od_lfields an_lfields od_lmade an_lmade od_lfront an_lfront od_lpairs an_lpairs od_law an_law od_sinit an_sinit od_scont an_scont od_seq an_seq od_sle an_sle od_sbool an_sbool od_sor an_sor od_sand an_sand od_sinv an_sinv od_ssub an_ssub od_sadd an_sadd od_sradd an_sradd od_pstart an_pstart od_pperiod an_pperiod od_below an_below od_snone an_snone od_only an_only od_finit an_finit od_fread an_fread od_fpassed an_fpassed od_fsets an_fsets od_fperiod an_fperiod od_fbool an_fbool od_feq an_feq od_for an_for od_fand an_fand od_fle an_fle : Option Addr} {sl_count sl_asc sl_check sl_flags sl_sper sl_short sl_gcd sl_ofFlags sl_frame sl_joined sl_isshift sl_gone sl_pool sl_draw sl_lsome sl_lfields sl_lmade sl_lfront sl_lpairs sl_law sl_sinit sl_scont sl_seq sl_sle sl_sbool sl_sor sl_sand sl_sinv sl_ssub sl_sadd sl_sradd sl_pstart sl_pperiod sl_below sl_snone sl_only sl_finit sl_fread sl_fpassed sl_fsets sl_fperiod sl_fbool sl_feq sl_for sl_fand sl_fle : Array (Option Value)} {oc_count kV_count dc_count pm_count cd_count ct_count oc_asc kV_asc dc_asc pm_asc cd_asc ct_asc oc_check kV_check dc_check pm_check cd_check ct_check oc_flags kV_flags dc_flags pm_flags cd_flags ct_flags oc_sper kV_sper dc_sper pm_sper cd_sper ct_sper oc_short kV_short dc_short pm_short cd_short ct_short oc_gcd kV_gcd dc_gcd pm_gcd cd_gcd ct_gcd oc_ofFlags kV_ofFlags dc_ofFlags pm_ofFlags cd_ofFlags ct_ofFlags oc_frame kV_frame dc_frame pm_frame cd_frame ct_frame oc_joined kV_joined dc_joined pm_joined cd_joined ct_joined oc_isshift kV_isshift dc_isshift pm_isshift cd_isshift ct_isshift oc_gone kV_gone dc_gone pm_gone cd_gone ct_gone oc_pool kV_pool dc_pool pm_pool cd_pool ct_pool oc_draw kV_draw dc_draw pm_draw cd_draw ct_draw oc_lsome kV_lsome dc_lsome pm_lsome cd_lsome ct_lsome oc_lfields kV_lfields dc_lfields pm_lfields cd_lfields ct_lfields oc_lmade kV_lmade dc_lmade pm_lmade cd_lmade ct_lmade oc_lfront kV_lfront dc_lfront pm_lfront cd_lfront ct_lfront oc_lpairs kV_lpairs dc_lpairs pm_lpairs cd_lpairs ct_lpairs oc_law kV_law dc_law pm_law cd_law ct_law oc_sinit kV_sinit dc_sinit pm_sinit cd_sinit ct_sinit oc_scont kV_scont dc_scont pm_scont cd_scont ct_scont oc_seq kV_seq dc_seq pm_seq cd_seq ct_seq oc_sle kV_sle dc_sle pm_sle cd_sle ct_sle oc_sbool kV_sbool dc_sbool pm_sbool cd_sbool ct_sbool oc_sor kV_sor dc_sor pm_sor cd_sor ct_sor oc_sand kV_sand dc_sand pm_sand cd_sand ct_sand oc_sinv kV_sinv dc_sinv pm_sinv cd_sinv ct_sinv oc_ssub kV_ssub dc_ssub pm_ssub cd_ssub ct_ssub oc_sadd kV_sadd dc_sadd pm_sadd cd_sadd ct_sadd oc_sradd kV_sradd dc_sradd pm_sradd cd_sradd ct_sradd oc_pstart kV_pstart dc_pstart pm_pstart cd_pstart ct_pstart oc_pperiod kV_pperiod dc_pperiod pm_pperiod cd_pperiod ct_pperiod oc_below kV_below dc_below pm_below cd_below ct_below oc_snone kV_snone dc_snone pm_snone cd_snone ct_snone oc_only kV_only dc_only pm_only cd_only ct_only oc_finit kV_finit dc_finit pm_finit cd_finit ct_finit oc_fread kV_fread dc_fread pm_fread cd_fread ct_fread oc_fpassed kV_fpassed dc_fpassed pm_fpassed cd_fpassed ct_fpassed oc_fsets kV_fsets dc_fsets pm_fsets cd_fsets ct_fsets oc_fperiod kV_fperiod dc_fperiod pm_fperiod cd_fperiod ct_fperiod oc_fbool kV_fbool dc_fbool pm_fbool cd_fbool ct_fbool oc_feq kV_feq dc_feq pm_feq cd_feq ct_feq oc_for kV_for dc_for pm_for cd_for ct_for oc_fand kV_fand dc_fand pm_fand cd_fand ct_fand oc_fle kV_fle dc_fle pm_fle cd_fle ct_fle : Value}
    {T_sinit aE_sinit aF_sinit : Addr} {cT_sinit cE_sinit cF_sinit : Value} {dT_sinit dE_sinit dF_sinit : Option Addr} {iT_sinit iE_sinit iF_sinit : Array Value} {mT_sinit mE_sinit mF_sinit : Nat} {sT_sinit sE_sinit sF_sinit : Array (Option Value)}
    {rs_snone rs_only : List Value}
    (X : K.In h) (G : h.Ns mainGlobals mg) (hfa : mg "law" = some (.ref fa))
    (a_count : PySem.W.nsIn K mainGlobals "is_count" = some (some (.ref f_count)))
    (a_asc : PySem.W.nsIn K mainGlobals "is_ascending" = some (some (.ref f_asc)))
    (a_check : PySem.W.nsIn K mainGlobals "check_set" = some (some (.ref f_check)))
    (a_flags : PySem.W.nsIn K mainGlobals "flags_of" = some (some (.ref f_flags)))
    (a_sper : PySem.W.nsIn K mainGlobals "shortest_period" = some (some (.ref f_sper)))
    (a_short : PySem.W.nsIn K mainGlobals "shortest" = some (some (.ref f_short)))
    (a_gcd : PySem.W.nsIn K mainGlobals "divisor_of" = some (some (.ref f_gcd)))
    (a_ofFlags : PySem.W.nsIn K mainGlobals "set_of_flags" = some (some (.ref f_ofFlags)))
    (a_frame : PySem.W.nsIn K mainGlobals "common_frame" = some (some (.ref f_frame)))
    (a_joined : PySem.W.nsIn K mainGlobals "joined" = some (some (.ref f_joined)))
    (a_isshift : PySem.W.nsIn K mainGlobals "is_shift" = some (some (.ref f_isshift)))
    (a_gone : PySem.W.nsIn K mainGlobals "gone" = some (some (.ref f_gone)))
    (a_pool : PySem.W.nsIn K mainGlobals "_law_pool" = some (some (.ref f_pool)))
    (a_draw : PySem.W.nsIn K mainGlobals "_law_draw" = some (some (.ref f_draw)))
    (a_lsome : PySem.W.nsIn K mainGlobals "_law_some" = some (some (.ref f_lsome)))
    (a_lfields : PySem.W.nsIn K mainGlobals "_law_fields" = some (some (.ref f_lfields)))
    (a_lmade : PySem.W.nsIn K mainGlobals "_law_made" = some (some (.ref f_lmade)))
    (a_lfront : PySem.W.nsIn K mainGlobals "_law_front" = some (some (.ref f_lfront)))
    (a_lpairs : PySem.W.nsIn K mainGlobals "_law_pairs" = some (some (.ref f_lpairs)))
    (a_law : PySem.W.nsIn K mainGlobals "law" = some (some (.ref f_law)))
    (g_LengthSet : PySem.W.nsIn K mainGlobals "LengthSet" = some (some (.ref a_LengthSet)))
    (c_LengthSet : Cls K a_LengthSet)
    (n_LengthSet_first : NoAttr K a_LengthSet "first")
    (n_LengthSet_size : NoAttr K a_LengthSet "size")
    (n_LengthSet_members : NoAttr K a_LengthSet "members")
    (n_LengthSet_tail : NoAttr K a_LengthSet "tail")
    (g_Front : PySem.W.nsIn K mainGlobals "Front" = some (some (.ref a_Front)))
    (c_Front : Cls K a_Front)
    (n_Front_own_lefts : NoAttr K a_Front "own_lefts")
    (m_sinit : Mk K a_LengthSet f_sinit)
    (m_scont : PySem.W.findIn K (.ref a_LengthSet) "__contains__" = some (some (.ref f_scont)))
    (i_scont : PySem.W.isFn K (.ref f_scont) = true)
    (m_seq : PySem.W.findIn K (.ref a_LengthSet) "__eq__" = some (some (.ref f_seq)))
    (i_seq : PySem.W.isFn K (.ref f_seq) = true)
    (m_sle : PySem.W.findIn K (.ref a_LengthSet) "__le__" = some (some (.ref f_sle)))
    (i_sle : PySem.W.isFn K (.ref f_sle) = true)
    (m_sbool : PySem.W.findIn K (.ref a_LengthSet) "__bool__" = some (some (.ref f_sbool)))
    (i_sbool : PySem.W.isFn K (.ref f_sbool) = true)
    (m_sor : PySem.W.findIn K (.ref a_LengthSet) "__or__" = some (some (.ref f_sor)))
    (i_sor : PySem.W.isFn K (.ref f_sor) = true)
    (m_sand : PySem.W.findIn K (.ref a_LengthSet) "__and__" = some (some (.ref f_sand)))
    (i_sand : PySem.W.isFn K (.ref f_sand) = true)
    (m_sinv : PySem.W.findIn K (.ref a_LengthSet) "__invert__" = some (some (.ref f_sinv)))
    (i_sinv : PySem.W.isFn K (.ref f_sinv) = true)
    (m_ssub : PySem.W.findIn K (.ref a_LengthSet) "__sub__" = some (some (.ref f_ssub)))
    (i_ssub : PySem.W.isFn K (.ref f_ssub) = true)
    (m_sadd : PySem.W.findIn K (.ref a_LengthSet) "__add__" = some (some (.ref f_sadd)))
    (i_sadd : PySem.W.isFn K (.ref f_sadd) = true)
    (m_sradd : PySem.W.findIn K (.ref a_LengthSet) "__radd__" = some (some (.ref f_sradd)))
    (i_sradd : PySem.W.isFn K (.ref f_sradd) = true)
    (m_pstart : PropOf K a_LengthSet "start" p_pstart f_pstart)
    (m_pperiod : PropOf K a_LengthSet "period" p_pperiod f_pperiod)
    (m_below : Meth K a_LengthSet "below" f_below)
    (m1_snone : PySem.W.readsIn K a_LengthSet (.type "type") = true)
    (m2_snone : PySem.W.specialIn K (.ref a_LengthSet) "__getattribute__" = some (some (.builtin "type.__getattribute__")))
    (m3_snone : PySem.W.findCls K (.ref a_LengthSet) (.type "type") "none" = some (.get (.builtin "staticmethod.__get__") (.ref p_snone) .none (.ref a_LengthSet)))
    (m4_snone : PySem.W.recIn K p_snone "staticmethod" = some (.ref f_snone :: rs_snone))
    (m1_only : PySem.W.readsIn K a_LengthSet (.type "type") = true)
    (m2_only : PySem.W.specialIn K (.ref a_LengthSet) "__getattribute__" = some (some (.builtin "type.__getattribute__")))
    (m3_only : PySem.W.findCls K (.ref a_LengthSet) (.type "type") "only" = some (.get (.builtin "staticmethod.__get__") (.ref p_only) .none (.ref a_LengthSet)))
    (m4_only : PySem.W.recIn K p_only "staticmethod" = some (.ref f_only :: rs_only))
    (m_finit : Mk K a_Front f_finit)
    (m_fread : Meth K a_Front "read" f_fread)
    (m_fpassed : Meth K a_Front "passed" f_fpassed)
    (m_fsets : Meth K a_Front "sets" f_fsets)
    (m_fperiod : PropOf K a_Front "period" p_fperiod f_fperiod)
    (m_fbool : PySem.W.findIn K (.ref a_Front) "__bool__" = some (some (.ref f_fbool)))
    (i_fbool : PySem.W.isFn K (.ref f_fbool) = true)
    (m_feq : PySem.W.findIn K (.ref a_Front) "__eq__" = some (some (.ref f_feq)))
    (i_feq : PySem.W.isFn K (.ref f_feq) = true)
    (m_for : PySem.W.findIn K (.ref a_Front) "__or__" = some (some (.ref f_for)))
    (i_for : PySem.W.isFn K (.ref f_for) = true)
    (m_fand : PySem.W.findIn K (.ref a_Front) "__and__" = some (some (.ref f_fand)))
    (i_fand : PySem.W.isFn K (.ref f_fand) = true)
    (m_fle : PySem.W.findIn K (.ref a_Front) "__le__" = some (some (.ref f_fle)))
    (i_fle : PySem.W.isFn K (.ref f_fle) = true)
    (xNoSet : XCls l.prog K mg "NoSet" a_NoSet "place")
    (xTooLarge : XCls l.prog K mg "TooLarge" a_TooLarge "limit")
    (i_LengthSet : C8.InsC K a_LengthSet)
    (t_list : PySem.W.kitOne K (.type "list") (.ref a_LengthSet) = some false)
    (t_tuple : PySem.W.kitOne K (.type "tuple") (.ref a_LengthSet) = some false)
    (t_int : PySem.W.kitOne K (.type "int") (.ref a_LengthSet) = some false)
    (t_NoneType : PySem.W.kitOne K (.type "NoneType") (.ref a_LengthSet) = some false)
    (t_str : PySem.W.kitOne K (.type "str") (.ref a_LengthSet) = some false)
    (t_bool : PySem.W.kitOne K (.type "bool") (.ref a_LengthSet) = some false)
    (ne_LS : PySem.W.findIn K (.ref a_LengthSet) "__ne__" = some (some (.builtin "object.__ne__")))
    (ob_LS : PySem.W.subIn K (.ref a_LengthSet) (.type "object") = some true)
    (sf_LS : PySem.W.selfFirst K a_LengthSet = true)
    (nI_LS : PySem.W.subIn K (.ref a_LengthSet) (.type "int") = some false)
    (sI_LS : PySem.W.subIn K (.type "int") (.ref a_LengthSet) = some false)
    (mr_LS : (PySem.W.clsIn K a_LengthSet).map (·.mro) = some [.ref a_LengthSet, .type "object"])
    (rs_LS : PySem.W.findIn K (.ref a_LengthSet) "__rsub__" = some none)
    (i1_add : PySem.W.findIn K (.ref a_LengthSet) "__iadd__" = some none)
    (i2_add : PySem.W.findIn K (.type "object") "__iadd__" = some none)
    (h1_add : (PySem.W.findIn K (.type "int") "__add__").isSome = true)
    (h2_add : (PySem.W.findIn K (.type "int") "__radd__").isSome = true)
    (i1_sub : PySem.W.findIn K (.ref a_LengthSet) "__isub__" = some none)
    (i2_sub : PySem.W.findIn K (.type "object") "__isub__" = some none)
    (h1_sub : (PySem.W.findIn K (.type "int") "__sub__").isSome = true)
    (h2_sub : (PySem.W.findIn K (.type "int") "__rsub__").isSome = true)
    (i_Front : C8.InsC K a_Front)
    (tf_list : PySem.W.kitOne K (.type "list") (.ref a_Front) = some false)
    (tf_tuple : PySem.W.kitOne K (.type "tuple") (.ref a_Front) = some false)
    (tf_int : PySem.W.kitOne K (.type "int") (.ref a_Front) = some false)
    (tf_NoneType : PySem.W.kitOne K (.type "NoneType") (.ref a_Front) = some false)
    (tf_str : PySem.W.kitOne K (.type "str") (.ref a_Front) = some false)
    (tf_bool : PySem.W.kitOne K (.type "bool") (.ref a_Front) = some false)
    (nf_list : PySem.W.notFirst K a_Front (.type "list") = true)
    (nf_tuple : PySem.W.notFirst K a_Front (.type "tuple") = true)
    (ne_Fr : PySem.W.findIn K (.ref a_Front) "__ne__" = some (some (.builtin "object.__ne__")))
    (ob_Fr : PySem.W.subIn K (.ref a_Front) (.type "object") = some true)
    (sf_Fr : PySem.W.selfFirst K a_Front = true)
    (dif_FL : a_Front ≠ a_LengthSet)
    (ra_Fr : PySem.W.findIn K (.ref a_Front) "__rand__" = some none)
    (ra_LS : PySem.W.findIn K (.ref a_LengthSet) "__rand__" = some none)
    (sb_LF : PySem.W.subIn K (.ref a_LengthSet) (.ref a_Front) = some false)
    (l_count : K.lookup f_count = some ⟨oc_count, od_count, .func (PySem.W.fnOf "is_count" "is_count" (defArgs s_count) (defBody s_count) (defScope s_count) .none kV_count dc_count pm_count an_count cd_count ct_count), sl_count⟩) (o_count : PySem.W.codeIn K cd_count "is_count" = true) (k_count : PySem.W.keepIn K (.ref f_count) = true)
    (l_asc : K.lookup f_asc = some ⟨oc_asc, od_asc, .func (PySem.W.fnOf "is_ascending" "is_ascending" (defArgs s_asc) (defBody s_asc) (defScope s_asc) .none kV_asc dc_asc pm_asc an_asc cd_asc ct_asc), sl_asc⟩) (o_asc : PySem.W.codeIn K cd_asc "is_ascending" = true) (k_asc : PySem.W.keepIn K (.ref f_asc) = true)
    (l_check : K.lookup f_check = some ⟨oc_check, od_check, .func (PySem.W.fnOf "check_set" "check_set" (defArgs s_check) (defBody s_check) (defScope s_check) .none kV_check dc_check pm_check an_check cd_check ct_check), sl_check⟩) (o_check : PySem.W.codeIn K cd_check "check_set" = true) (k_check : PySem.W.keepIn K (.ref f_check) = true)
    (l_flags : K.lookup f_flags = some ⟨oc_flags, od_flags, .func (PySem.W.fnOf "flags_of" "flags_of" (defArgs s_flags) (defBody s_flags) (defScope s_flags) .none kV_flags dc_flags pm_flags an_flags cd_flags ct_flags), sl_flags⟩) (o_flags : PySem.W.codeIn K cd_flags "flags_of" = true) (k_flags : PySem.W.keepIn K (.ref f_flags) = true)
    (l_sper : K.lookup f_sper = some ⟨oc_sper, od_sper, .func (PySem.W.fnOf "shortest_period" "shortest_period" (defArgs s_sper) (defBody s_sper) (defScope s_sper) .none kV_sper dc_sper pm_sper an_sper cd_sper ct_sper), sl_sper⟩) (o_sper : PySem.W.codeIn K cd_sper "shortest_period" = true) (k_sper : PySem.W.keepIn K (.ref f_sper) = true)
    (l_short : K.lookup f_short = some ⟨oc_short, od_short, .func (PySem.W.fnOf "shortest" "shortest" (defArgs s_short) (defBody s_short) (defScope s_short) .none kV_short dc_short pm_short an_short cd_short ct_short), sl_short⟩) (o_short : PySem.W.codeIn K cd_short "shortest" = true) (k_short : PySem.W.keepIn K (.ref f_short) = true)
    (l_gcd : K.lookup f_gcd = some ⟨oc_gcd, od_gcd, .func (PySem.W.fnOf "divisor_of" "divisor_of" (defArgs s_gcd) (defBody s_gcd) (defScope s_gcd) .none kV_gcd dc_gcd pm_gcd an_gcd cd_gcd ct_gcd), sl_gcd⟩) (o_gcd : PySem.W.codeIn K cd_gcd "divisor_of" = true) (k_gcd : PySem.W.keepIn K (.ref f_gcd) = true)
    (l_ofFlags : K.lookup f_ofFlags = some ⟨oc_ofFlags, od_ofFlags, .func (PySem.W.fnOf "set_of_flags" "set_of_flags" (defArgs s_ofFlags) (defBody s_ofFlags) (defScope s_ofFlags) .none kV_ofFlags dc_ofFlags pm_ofFlags an_ofFlags cd_ofFlags ct_ofFlags), sl_ofFlags⟩) (o_ofFlags : PySem.W.codeIn K cd_ofFlags "set_of_flags" = true) (k_ofFlags : PySem.W.keepIn K (.ref f_ofFlags) = true)
    (l_frame : K.lookup f_frame = some ⟨oc_frame, od_frame, .func (PySem.W.fnOf "common_frame" "common_frame" (defArgs s_frame) (defBody s_frame) (defScope s_frame) .none kV_frame dc_frame pm_frame an_frame cd_frame ct_frame), sl_frame⟩) (o_frame : PySem.W.codeIn K cd_frame "common_frame" = true) (k_frame : PySem.W.keepIn K (.ref f_frame) = true)
    (l_joined : K.lookup f_joined = some ⟨oc_joined, od_joined, .func (PySem.W.fnOf "joined" "joined" (defArgs s_joined) (defBody s_joined) (defScope s_joined) .none kV_joined dc_joined pm_joined an_joined cd_joined ct_joined), sl_joined⟩) (o_joined : PySem.W.codeIn K cd_joined "joined" = true) (k_joined : PySem.W.keepIn K (.ref f_joined) = true)
    (l_isshift : K.lookup f_isshift = some ⟨oc_isshift, od_isshift, .func (PySem.W.fnOf "is_shift" "is_shift" (defArgs s_isshift) (defBody s_isshift) (defScope s_isshift) .none kV_isshift dc_isshift pm_isshift an_isshift cd_isshift ct_isshift), sl_isshift⟩) (o_isshift : PySem.W.codeIn K cd_isshift "is_shift" = true) (k_isshift : PySem.W.keepIn K (.ref f_isshift) = true)
    (l_gone : K.lookup f_gone = some ⟨oc_gone, od_gone, .func (PySem.W.fnOf "gone" "gone" (defArgs s_gone) (defBody s_gone) (defScope s_gone) .none kV_gone dc_gone pm_gone an_gone cd_gone ct_gone), sl_gone⟩) (o_gone : PySem.W.codeIn K cd_gone "gone" = true) (k_gone : PySem.W.keepIn K (.ref f_gone) = true)
    (l_pool : K.lookup f_pool = some ⟨oc_pool, od_pool, .func (PySem.W.fnOf "_law_pool" "_law_pool" (defArgs s_pool) (defBody s_pool) (defScope s_pool) .none kV_pool dc_pool pm_pool an_pool cd_pool ct_pool), sl_pool⟩) (o_pool : PySem.W.codeIn K cd_pool "_law_pool" = true) (k_pool : PySem.W.keepIn K (.ref f_pool) = true)
    (l_draw : K.lookup f_draw = some ⟨oc_draw, od_draw, .func (PySem.W.fnOf "_law_draw" "_law_draw" (defArgs s_draw) (defBody s_draw) (defScope s_draw) .none kV_draw dc_draw pm_draw an_draw cd_draw ct_draw), sl_draw⟩) (o_draw : PySem.W.codeIn K cd_draw "_law_draw" = true) (k_draw : PySem.W.keepIn K (.ref f_draw) = true)
    (l_lsome : K.lookup f_lsome = some ⟨oc_lsome, od_lsome, .func (PySem.W.fnOf "_law_some" "_law_some" (defArgs s_lsome) (defBody s_lsome) (defScope s_lsome) .none kV_lsome dc_lsome pm_lsome an_lsome cd_lsome ct_lsome), sl_lsome⟩) (o_lsome : PySem.W.codeIn K cd_lsome "_law_some" = true) (k_lsome : PySem.W.keepIn K (.ref f_lsome) = true)
    (l_lfields : K.lookup f_lfields = some ⟨oc_lfields, od_lfields, .func (PySem.W.fnOf "_law_fields" "_law_fields" (defArgs s_lfields) (defBody s_lfields) (defScope s_lfields) .none kV_lfields dc_lfields pm_lfields an_lfields cd_lfields ct_lfields), sl_lfields⟩) (o_lfields : PySem.W.codeIn K cd_lfields "_law_fields" = true) (k_lfields : PySem.W.keepIn K (.ref f_lfields) = true)
    (l_lmade : K.lookup f_lmade = some ⟨oc_lmade, od_lmade, .func (PySem.W.fnOf "_law_made" "_law_made" (defArgs s_lmade) (defBody s_lmade) (defScope s_lmade) .none kV_lmade dc_lmade pm_lmade an_lmade cd_lmade ct_lmade), sl_lmade⟩) (o_lmade : PySem.W.codeIn K cd_lmade "_law_made" = true) (k_lmade : PySem.W.keepIn K (.ref f_lmade) = true)
    (l_lfront : K.lookup f_lfront = some ⟨oc_lfront, od_lfront, .func (PySem.W.fnOf "_law_front" "_law_front" (defArgs s_lfront) (defBody s_lfront) (defScope s_lfront) .none kV_lfront dc_lfront pm_lfront an_lfront cd_lfront ct_lfront), sl_lfront⟩) (o_lfront : PySem.W.codeIn K cd_lfront "_law_front" = true) (k_lfront : PySem.W.keepIn K (.ref f_lfront) = true)
    (l_lpairs : K.lookup f_lpairs = some ⟨oc_lpairs, od_lpairs, .func (PySem.W.fnOf "_law_pairs" "_law_pairs" (defArgs s_lpairs) (defBody s_lpairs) (defScope s_lpairs) .none kV_lpairs dc_lpairs pm_lpairs an_lpairs cd_lpairs ct_lpairs), sl_lpairs⟩) (o_lpairs : PySem.W.codeIn K cd_lpairs "_law_pairs" = true) (k_lpairs : PySem.W.keepIn K (.ref f_lpairs) = true)
    (l_law : K.lookup f_law = some ⟨oc_law, od_law, .func (PySem.W.fnOf "law" "law" (defArgs s_law) (defBody s_law) (defScope s_law) .none kV_law dc_law pm_law an_law cd_law ct_law), sl_law⟩) (o_law : PySem.W.codeIn K cd_law "law" = true) (k_law : PySem.W.keepIn K (.ref f_law) = true)
    (l_sinit : K.lookup f_sinit = some ⟨oc_sinit, od_sinit, .func (PySem.W.fnOf "__init__" "LengthSet.__init__" (defArgs s_sinit) (defBody s_sinit) (defScope s_sinit) (.ref T_sinit) kV_sinit dc_sinit pm_sinit an_sinit cd_sinit ct_sinit), sl_sinit⟩) (o_sinit : PySem.W.codeIn K cd_sinit "LengthSet.__init__" = true) (k_sinit : PySem.W.keepIn K (.ref f_sinit) = true)
    (lT_sinit : K.lookup T_sinit = some ⟨cT_sinit, dT_sinit, .seq iT_sinit mT_sinit, sT_sinit⟩) (vT_sinit : Vals [.ref aE_sinit, .int 0, .int 1, .ref aF_sinit] iT_sinit.toList) (lE_sinit : K.lookup aE_sinit = some ⟨cE_sinit, dE_sinit, .seq iE_sinit mE_sinit, sE_sinit⟩) (cE1_sinit : cE_sinit = .type "tuple") (vE_sinit : Vals [] iE_sinit.toList) (lF_sinit : K.lookup aF_sinit = some ⟨cF_sinit, dF_sinit, .seq iF_sinit mF_sinit, sF_sinit⟩) (cF1_sinit : cF_sinit = .type "tuple") (vF_sinit : Vals [] iF_sinit.toList)
    (l_scont : K.lookup f_scont = some ⟨oc_scont, od_scont, .func (PySem.W.fnOf "__contains__" "LengthSet.__contains__" (defArgs s_scont) (defBody s_scont) (defScope s_scont) .none kV_scont dc_scont pm_scont an_scont cd_scont ct_scont), sl_scont⟩) (o_scont : PySem.W.codeIn K cd_scont "LengthSet.__contains__" = true) (k_scont : PySem.W.keepIn K (.ref f_scont) = true)
    (l_seq : K.lookup f_seq = some ⟨oc_seq, od_seq, .func (PySem.W.fnOf "__eq__" "LengthSet.__eq__" (defArgs s_seq) (defBody s_seq) (defScope s_seq) .none kV_seq dc_seq pm_seq an_seq cd_seq ct_seq), sl_seq⟩) (o_seq : PySem.W.codeIn K cd_seq "LengthSet.__eq__" = true) (k_seq : PySem.W.keepIn K (.ref f_seq) = true)
    (l_sle : K.lookup f_sle = some ⟨oc_sle, od_sle, .func (PySem.W.fnOf "__le__" "LengthSet.__le__" (defArgs s_sle) (defBody s_sle) (defScope s_sle) .none kV_sle dc_sle pm_sle an_sle cd_sle ct_sle), sl_sle⟩) (o_sle : PySem.W.codeIn K cd_sle "LengthSet.__le__" = true) (k_sle : PySem.W.keepIn K (.ref f_sle) = true)
    (l_sbool : K.lookup f_sbool = some ⟨oc_sbool, od_sbool, .func (PySem.W.fnOf "__bool__" "LengthSet.__bool__" (defArgs s_sbool) (defBody s_sbool) (defScope s_sbool) .none kV_sbool dc_sbool pm_sbool an_sbool cd_sbool ct_sbool), sl_sbool⟩) (o_sbool : PySem.W.codeIn K cd_sbool "LengthSet.__bool__" = true) (k_sbool : PySem.W.keepIn K (.ref f_sbool) = true)
    (l_sor : K.lookup f_sor = some ⟨oc_sor, od_sor, .func (PySem.W.fnOf "__or__" "LengthSet.__or__" (defArgs s_sor) (defBody s_sor) (defScope s_sor) .none kV_sor dc_sor pm_sor an_sor cd_sor ct_sor), sl_sor⟩) (o_sor : PySem.W.codeIn K cd_sor "LengthSet.__or__" = true) (k_sor : PySem.W.keepIn K (.ref f_sor) = true)
    (l_sand : K.lookup f_sand = some ⟨oc_sand, od_sand, .func (PySem.W.fnOf "__and__" "LengthSet.__and__" (defArgs s_sand) (defBody s_sand) (defScope s_sand) .none kV_sand dc_sand pm_sand an_sand cd_sand ct_sand), sl_sand⟩) (o_sand : PySem.W.codeIn K cd_sand "LengthSet.__and__" = true) (k_sand : PySem.W.keepIn K (.ref f_sand) = true)
    (l_sinv : K.lookup f_sinv = some ⟨oc_sinv, od_sinv, .func (PySem.W.fnOf "__invert__" "LengthSet.__invert__" (defArgs s_sinv) (defBody s_sinv) (defScope s_sinv) .none kV_sinv dc_sinv pm_sinv an_sinv cd_sinv ct_sinv), sl_sinv⟩) (o_sinv : PySem.W.codeIn K cd_sinv "LengthSet.__invert__" = true) (k_sinv : PySem.W.keepIn K (.ref f_sinv) = true)
    (l_ssub : K.lookup f_ssub = some ⟨oc_ssub, od_ssub, .func (PySem.W.fnOf "__sub__" "LengthSet.__sub__" (defArgs s_ssub) (defBody s_ssub) (defScope s_ssub) .none kV_ssub dc_ssub pm_ssub an_ssub cd_ssub ct_ssub), sl_ssub⟩) (o_ssub : PySem.W.codeIn K cd_ssub "LengthSet.__sub__" = true) (k_ssub : PySem.W.keepIn K (.ref f_ssub) = true)
    (l_sadd : K.lookup f_sadd = some ⟨oc_sadd, od_sadd, .func (PySem.W.fnOf "__add__" "LengthSet.__add__" (defArgs s_sadd) (defBody s_sadd) (defScope s_sadd) .none kV_sadd dc_sadd pm_sadd an_sadd cd_sadd ct_sadd), sl_sadd⟩) (o_sadd : PySem.W.codeIn K cd_sadd "LengthSet.__add__" = true) (k_sadd : PySem.W.keepIn K (.ref f_sadd) = true)
    (l_sradd : K.lookup f_sradd = some ⟨oc_sradd, od_sradd, .func (PySem.W.fnOf "__radd__" "LengthSet.__radd__" (defArgs s_sradd) (defBody s_sradd) (defScope s_sradd) .none kV_sradd dc_sradd pm_sradd an_sradd cd_sradd ct_sradd), sl_sradd⟩) (o_sradd : PySem.W.codeIn K cd_sradd "LengthSet.__radd__" = true) (k_sradd : PySem.W.keepIn K (.ref f_sradd) = true)
    (l_pstart : K.lookup f_pstart = some ⟨oc_pstart, od_pstart, .func (PySem.W.fnOf "start" "LengthSet.start" (defArgs s_pstart) (defBody s_pstart) (defScope s_pstart) .none kV_pstart dc_pstart pm_pstart an_pstart cd_pstart ct_pstart), sl_pstart⟩) (o_pstart : PySem.W.codeIn K cd_pstart "LengthSet.start" = true) (k_pstart : PySem.W.keepIn K (.ref f_pstart) = true)
    (l_pperiod : K.lookup f_pperiod = some ⟨oc_pperiod, od_pperiod, .func (PySem.W.fnOf "period" "LengthSet.period" (defArgs s_pperiod) (defBody s_pperiod) (defScope s_pperiod) .none kV_pperiod dc_pperiod pm_pperiod an_pperiod cd_pperiod ct_pperiod), sl_pperiod⟩) (o_pperiod : PySem.W.codeIn K cd_pperiod "LengthSet.period" = true) (k_pperiod : PySem.W.keepIn K (.ref f_pperiod) = true)
    (l_below : K.lookup f_below = some ⟨oc_below, od_below, .func (PySem.W.fnOf "below" "LengthSet.below" (defArgs s_below) (defBody s_below) (defScope s_below) .none kV_below dc_below pm_below an_below cd_below ct_below), sl_below⟩) (o_below : PySem.W.codeIn K cd_below "LengthSet.below" = true) (k_below : PySem.W.keepIn K (.ref f_below) = true)
    (l_snone : K.lookup f_snone = some ⟨oc_snone, od_snone, .func (PySem.W.fnOf "none" "LengthSet.none" (defArgs s_snone) (defBody s_snone) (defScope s_snone) .none kV_snone dc_snone pm_snone an_snone cd_snone ct_snone), sl_snone⟩) (o_snone : PySem.W.codeIn K cd_snone "LengthSet.none" = true) (k_snone : PySem.W.keepIn K (.ref f_snone) = true)
    (l_only : K.lookup f_only = some ⟨oc_only, od_only, .func (PySem.W.fnOf "only" "LengthSet.only" (defArgs s_only) (defBody s_only) (defScope s_only) .none kV_only dc_only pm_only an_only cd_only ct_only), sl_only⟩) (o_only : PySem.W.codeIn K cd_only "LengthSet.only" = true) (k_only : PySem.W.keepIn K (.ref f_only) = true)
    (l_finit : K.lookup f_finit = some ⟨oc_finit, od_finit, .func (PySem.W.fnOf "__init__" "Front.__init__" (defArgs s_finit) (defBody s_finit) (defScope s_finit) .none kV_finit dc_finit pm_finit an_finit cd_finit ct_finit), sl_finit⟩) (o_finit : PySem.W.codeIn K cd_finit "Front.__init__" = true) (k_finit : PySem.W.keepIn K (.ref f_finit) = true)
    (l_fread : K.lookup f_fread = some ⟨oc_fread, od_fread, .func (PySem.W.fnOf "read" "Front.read" (defArgs s_fread) (defBody s_fread) (defScope s_fread) .none kV_fread dc_fread pm_fread an_fread cd_fread ct_fread), sl_fread⟩) (o_fread : PySem.W.codeIn K cd_fread "Front.read" = true) (k_fread : PySem.W.keepIn K (.ref f_fread) = true)
    (l_fpassed : K.lookup f_fpassed = some ⟨oc_fpassed, od_fpassed, .func (PySem.W.fnOf "passed" "Front.passed" (defArgs s_fpassed) (defBody s_fpassed) (defScope s_fpassed) .none kV_fpassed dc_fpassed pm_fpassed an_fpassed cd_fpassed ct_fpassed), sl_fpassed⟩) (o_fpassed : PySem.W.codeIn K cd_fpassed "Front.passed" = true) (k_fpassed : PySem.W.keepIn K (.ref f_fpassed) = true)
    (l_fsets : K.lookup f_fsets = some ⟨oc_fsets, od_fsets, .func (PySem.W.fnOf "sets" "Front.sets" (defArgs s_fsets) (defBody s_fsets) (defScope s_fsets) .none kV_fsets dc_fsets pm_fsets an_fsets cd_fsets ct_fsets), sl_fsets⟩) (o_fsets : PySem.W.codeIn K cd_fsets "Front.sets" = true) (k_fsets : PySem.W.keepIn K (.ref f_fsets) = true)
    (l_fperiod : K.lookup f_fperiod = some ⟨oc_fperiod, od_fperiod, .func (PySem.W.fnOf "period" "Front.period" (defArgs s_fperiod) (defBody s_fperiod) (defScope s_fperiod) .none kV_fperiod dc_fperiod pm_fperiod an_fperiod cd_fperiod ct_fperiod), sl_fperiod⟩) (o_fperiod : PySem.W.codeIn K cd_fperiod "Front.period" = true) (k_fperiod : PySem.W.keepIn K (.ref f_fperiod) = true)
    (l_fbool : K.lookup f_fbool = some ⟨oc_fbool, od_fbool, .func (PySem.W.fnOf "__bool__" "Front.__bool__" (defArgs s_fbool) (defBody s_fbool) (defScope s_fbool) .none kV_fbool dc_fbool pm_fbool an_fbool cd_fbool ct_fbool), sl_fbool⟩) (o_fbool : PySem.W.codeIn K cd_fbool "Front.__bool__" = true) (k_fbool : PySem.W.keepIn K (.ref f_fbool) = true)
    (l_feq : K.lookup f_feq = some ⟨oc_feq, od_feq, .func (PySem.W.fnOf "__eq__" "Front.__eq__" (defArgs s_feq) (defBody s_feq) (defScope s_feq) .none kV_feq dc_feq pm_feq an_feq cd_feq ct_feq), sl_feq⟩) (o_feq : PySem.W.codeIn K cd_feq "Front.__eq__" = true) (k_feq : PySem.W.keepIn K (.ref f_feq) = true)
    (l_for : K.lookup f_for = some ⟨oc_for, od_for, .func (PySem.W.fnOf "__or__" "Front.__or__" (defArgs s_for) (defBody s_for) (defScope s_for) .none kV_for dc_for pm_for an_for cd_for ct_for), sl_for⟩) (o_for : PySem.W.codeIn K cd_for "Front.__or__" = true) (k_for : PySem.W.keepIn K (.ref f_for) = true)
    (l_fand : K.lookup f_fand = some ⟨oc_fand, od_fand, .func (PySem.W.fnOf "__and__" "Front.__and__" (defArgs s_fand) (defBody s_fand) (defScope s_fand) .none kV_fand dc_fand pm_fand an_fand cd_fand ct_fand), sl_fand⟩) (o_fand : PySem.W.codeIn K cd_fand "Front.__and__" = true) (k_fand : PySem.W.keepIn K (.ref f_fand) = true)
    (l_fle : K.lookup f_fle = some ⟨oc_fle, od_fle, .func (PySem.W.fnOf "__le__" "Front.__le__" (defArgs s_fle) (defBody s_fle) (defScope s_fle) .none kV_fle dc_fle pm_fle an_fle cd_fle ct_fle), sl_fle⟩) (o_fle : PySem.W.codeIn K cd_fle "Front.__le__" = true) (k_fle : PySem.W.keepIn K (.ref f_fle) = true)
    (gMo : PySem.W.nsIn K mainGlobals "MOST" = some (some (.int 5000 t1)))
    (gMB : PySem.W.nsIn K mainGlobals "MOST_BOUND_sets" = some (some (.int 10000 t2)))
    (gMF : PySem.W.nsIn K mainGlobals "MOST_BOUND_fronts" = some (some (.int 6000 t3)))
    (z_len : PySem.W.nsIn K mainGlobals "len" = some none)
    (z_abs : PySem.W.nsIn K mainGlobals "abs" = some none)
    (z_int : PySem.W.nsIn K mainGlobals "int" = some none)
    (z_str : PySem.W.nsIn K mainGlobals "str" = some none)
    (z_range : PySem.W.nsIn K mainGlobals "range" = some none)
    (z_list : PySem.W.nsIn K mainGlobals "list" = some none)
    (z_tuple : PySem.W.nsIn K mainGlobals "tuple" = some none)
    (z_dict : PySem.W.nsIn K mainGlobals "dict" = some none)
    (z_sum : PySem.W.nsIn K mainGlobals "sum" = some none)
    (z_isinstance : PySem.W.nsIn K mainGlobals "isinstance" = some none)
    (z_enumerate : PySem.W.nsIn K mainGlobals "enumerate" = some none)
    (z_zip : PySem.W.nsIn K mainGlobals "zip" = some none)
    (z_max : PySem.W.nsIn K mainGlobals "max" = some none)
    (z_min : PySem.W.nsIn K mainGlobals "min" = some none)
    (z_bool : PySem.W.nsIn K mainGlobals "bool" = some none)
    (z_any : PySem.W.nsIn K mainGlobals "any" = some none)
    (z_all : PySem.W.nsIn K mainGlobals "all" = some none)
    (z_sorted : PySem.W.nsIn K mainGlobals "sorted" = some none)
    (z_set : PySem.W.nsIn K mainGlobals "set" = some none)
    : ∃ fd : FuncData, (∀ (s : Shared) (v : Value), BindsTo s fd ⟨[v], []⟩ [("script", v)]) ∧ ∀ base : Heap, K.In base → base.Ns mainGlobals mg → FnOk l.prog w K mg base (L2N.CX l.prog w) 13 fa fd ["script"] (A.spTop K) := by
  have e := hfa.symm.trans (PySem.W.mg_of X G a_law)
  cases e
  have T : Bn mg := ⟨PySem.W.mg_none_of X G z_len, PySem.W.mg_none_of X G z_abs, PySem.W.mg_none_of X G z_int, PySem.W.mg_none_of X G z_str, PySem.W.mg_none_of X G z_range, PySem.W.mg_none_of X G z_list, PySem.W.mg_none_of X G z_tuple, PySem.W.mg_none_of X G z_dict, PySem.W.mg_none_of X G z_sum, PySem.W.mg_none_of X G z_isinstance, PySem.W.mg_none_of X G z_enumerate, PySem.W.mg_none_of X G z_zip, PySem.W.mg_none_of X G z_max, PySem.W.mg_none_of X G z_min, PySem.W.mg_none_of X G z_bool, PySem.W.mg_none_of X G z_any, PySem.W.mg_none_of X G z_all, PySem.W.mg_none_of X G z_sorted, PySem.W.mg_none_of X G z_set⟩
  have F_count := fun_mk (st := s_count) l_count o_count k_count
  have D_count : Dfn K mg "is_count" s_count ["thing"] f_count _ := ⟨F_count.g, PySem.W.mg_of X G a_count, F_count.binds (ps := ["thing"]) fun _ _ _ _ _ _ us hl => match us, hl with | [_], _ => rfl⟩
  have F_asc := fun_mk (st := s_asc) l_asc o_asc k_asc
  have D_asc : Dfn K mg "is_ascending" s_asc ["row", "bound"] f_asc _ := ⟨F_asc.g, PySem.W.mg_of X G a_asc, F_asc.binds (ps := ["row", "bound"]) fun _ _ _ _ _ _ us hl => match us, hl with | [_, _], _ => rfl⟩
  have F_check := fun_mk (st := s_check) l_check o_check k_check
  have D_check : Dfn K mg "check_set" s_check ["early", "start", "period", "rests"] f_check _ := ⟨F_check.g, PySem.W.mg_of X G a_check, F_check.binds (ps := ["early", "start", "period", "rests"]) fun _ _ _ _ _ _ us hl => match us, hl with | [_, _, _, _], _ => rfl⟩
  have F_flags := fun_mk (st := s_flags) l_flags o_flags k_flags
  have D_flags : Dfn K mg "flags_of" s_flags ["early", "start", "period", "rests", "size"] f_flags _ := ⟨F_flags.g, PySem.W.mg_of X G a_flags, F_flags.binds (ps := ["early", "start", "period", "rests", "size"]) fun _ _ _ _ _ _ us hl => match us, hl with | [_, _, _, _, _], _ => rfl⟩
  have F_sper := fun_mk (st := s_sper) l_sper o_sper k_sper
  have D_sper : Dfn K mg "shortest_period" s_sper ["cycle"] f_sper _ := ⟨F_sper.g, PySem.W.mg_of X G a_sper, F_sper.binds (ps := ["cycle"]) fun _ _ _ _ _ _ us hl => match us, hl with | [_], _ => rfl⟩
  have F_short := fun_mk (st := s_short) l_short o_short k_short
  have D_short : Dfn K mg "shortest" s_short ["flags", "start"] f_short _ := ⟨F_short.g, PySem.W.mg_of X G a_short, F_short.binds (ps := ["flags", "start"]) fun _ _ _ _ _ _ us hl => match us, hl with | [_, _], _ => rfl⟩
  have F_gcd := fun_mk (st := s_gcd) l_gcd o_gcd k_gcd
  have D_gcd : Dfn K mg "divisor_of" s_gcd ["one", "other"] f_gcd _ := ⟨F_gcd.g, PySem.W.mg_of X G a_gcd, F_gcd.binds (ps := ["one", "other"]) fun _ _ _ _ _ _ us hl => match us, hl with | [_, _], _ => rfl⟩
  have F_ofFlags := fun_mk (st := s_ofFlags) l_ofFlags o_ofFlags k_ofFlags
  have D_ofFlags : Dfn K mg "set_of_flags" s_ofFlags ["flags", "start"] f_ofFlags _ := ⟨F_ofFlags.g, PySem.W.mg_of X G a_ofFlags, F_ofFlags.binds (ps := ["flags", "start"]) fun _ _ _ _ _ _ us hl => match us, hl with | [_, _], _ => rfl⟩
  have F_frame := fun_mk (st := s_frame) l_frame o_frame k_frame
  have D_frame : Dfn K mg "common_frame" s_frame ["one", "other"] f_frame _ := ⟨F_frame.g, PySem.W.mg_of X G a_frame, F_frame.binds (ps := ["one", "other"]) fun _ _ _ _ _ _ us hl => match us, hl with | [_, _], _ => rfl⟩
  have F_joined := fun_mk (st := s_joined) l_joined o_joined k_joined
  have D_joined : Dfn K mg "joined" s_joined ["one", "other", "word"] f_joined _ := ⟨F_joined.g, PySem.W.mg_of X G a_joined, F_joined.binds (ps := ["one", "other", "word"]) fun _ _ _ _ _ _ us hl => match us, hl with | [_, _, _], _ => rfl⟩
  have F_isshift := fun_mk (st := s_isshift) l_isshift o_isshift k_isshift
  have D_isshift : Dfn K mg "is_shift" s_isshift ["thing"] f_isshift _ := ⟨F_isshift.g, PySem.W.mg_of X G a_isshift, F_isshift.binds (ps := ["thing"]) fun _ _ _ _ _ _ us hl => match us, hl with | [_], _ => rfl⟩
  have F_gone := fun_mk (st := s_gone) l_gone o_gone k_gone
  have D_gone : Dfn K mg "gone" s_gone ["lefts", "lengths"] f_gone _ := ⟨F_gone.g, PySem.W.mg_of X G a_gone, F_gone.binds (ps := ["lefts", "lengths"]) fun _ _ _ _ _ _ us hl => match us, hl with | [_, _], _ => rfl⟩
  have F_pool := fun_mk (st := s_pool) l_pool o_pool k_pool
  have D_pool : Dfn K mg "_law_pool" s_pool ["script", "k"] f_pool _ := ⟨F_pool.g, PySem.W.mg_of X G a_pool, F_pool.binds (ps := ["script", "k"]) fun _ _ _ _ _ _ us hl => match us, hl with | [_, _], _ => rfl⟩
  have F_draw := fun_mk (st := s_draw) l_draw o_draw k_draw
  have D_draw : Dfn K mg "_law_draw" s_draw ["pool", "count"] f_draw _ := ⟨F_draw.g, PySem.W.mg_of X G a_draw, F_draw.binds (ps := ["pool", "count"]) fun _ _ _ _ _ _ us hl => match us, hl with | [_, _], _ => rfl⟩
  have F_lsome := fun_mk (st := s_lsome) l_lsome o_lsome k_lsome
  have D_lsome : Dfn K mg "_law_some" s_lsome ["pool", "size"] f_lsome _ := ⟨F_lsome.g, PySem.W.mg_of X G a_lsome, F_lsome.binds (ps := ["pool", "size"]) fun _ _ _ _ _ _ us hl => match us, hl with | [_, _], _ => rfl⟩
  have F_lfields := fun_mk (st := s_lfields) l_lfields o_lfields k_lfields
  have D_lfields : Dfn K mg "_law_fields" s_lfields ["pool"] f_lfields _ := ⟨F_lfields.g, PySem.W.mg_of X G a_lfields, F_lfields.binds (ps := ["pool"]) fun _ _ _ _ _ _ us hl => match us, hl with | [_], _ => rfl⟩
  have F_lmade := fun_mk (st := s_lmade) l_lmade o_lmade k_lmade
  have D_lmade : Dfn K mg "_law_made" s_lmade ["fields"] f_lmade _ := ⟨F_lmade.g, PySem.W.mg_of X G a_lmade, F_lmade.binds (ps := ["fields"]) fun _ _ _ _ _ _ us hl => match us, hl with | [_], _ => rfl⟩
  have F_lfront := fun_mk (st := s_lfront) l_lfront o_lfront k_lfront
  have D_lfront : Dfn K mg "_law_front" s_lfront ["sets"] f_lfront _ := ⟨F_lfront.g, PySem.W.mg_of X G a_lfront, F_lfront.binds (ps := ["sets"]) fun _ _ _ _ _ _ us hl => match us, hl with | [_], _ => rfl⟩
  have F_lpairs := fun_mk (st := s_lpairs) l_lpairs o_lpairs k_lpairs
  have D_lpairs : Dfn K mg "_law_pairs" s_lpairs ["one", "two"] f_lpairs _ := ⟨F_lpairs.g, PySem.W.mg_of X G a_lpairs, F_lpairs.binds (ps := ["one", "two"]) fun _ _ _ _ _ _ us hl => match us, hl with | [_, _], _ => rfl⟩
  have F_law := fun_mk (st := s_law) l_law o_law k_law
  have D_law : Dfn K mg "law" s_law ["script"] fa _ := ⟨F_law.g, PySem.W.mg_of X G a_law, F_law.binds (ps := ["script"]) fun _ _ _ _ _ _ us hl => match us, hl with | [_], _ => rfl⟩
  have F_sinit := funG_mk (st := s_sinit) l_sinit o_sinit k_sinit
  have D_sinit : MDg K "__init__" "LengthSet.__init__" s_sinit f_sinit _ := ⟨F_sinit⟩
  have FD_sinit : FunD K "__init__" "LengthSet.__init__" (defArgs s_sinit) (defBody s_sinit) (defScope s_sinit) [.ref aE_sinit, .int 0, .int 1, .ref aF_sinit] [] f_sinit (PySem.W.fnOf "__init__" "LengthSet.__init__" (defArgs s_sinit) (defBody s_sinit) (defScope s_sinit) (.ref T_sinit) kV_sinit dc_sinit pm_sinit an_sinit cd_sinit ct_sinit) := ⟨⟨_, _, .ref T_sinit, _, _, _, _, _, _, _, rfl, l_sinit, o_sinit, .inr ⟨by simp, T_sinit, _, iT_sinit.toList, mT_sinit, rfl, lT_sinit, by simp, vT_sinit⟩, .inl rfl⟩, k_sinit⟩
  have b5_sinit := FD_sinit.binds1 (ps := ["self", "early", "start", "period", "rests"]) 5 4 (by simp) rfl fun T kV doc pm an cdv ct us its h1 h2 => match us, its, h1, h2 with | [_, _, _, _, _], [_, _, _, _], _, _ => ⟨_, rfl, rfl⟩
  have b3_sinit := FD_sinit.binds1 (ps := ["self", "early", "start", "period", "rests"]) 3 2 (by simp) rfl fun T kV doc pm an cdv ct us its h1 h2 => match us, its, h1, h2 with | [_, _, _], [_, _, _, _], _, _ => ⟨_, rfl, rfl⟩
  have b1_sinit := FD_sinit.binds1 (ps := ["self", "early", "start", "period", "rests"]) 1 0 (by simp) rfl fun T kV doc pm an cdv ct us its h1 h2 => match us, its, h1, h2 with | [_], [_, _, _, _], _, _ => ⟨_, rfl, rfl⟩
  have F_scont := fun_mk (st := s_scont) l_scont o_scont k_scont
  have D_scont : MDf K "__contains__" "LengthSet.__contains__" s_scont ["self", "thing"] f_scont _ := ⟨F_scont.g, F_scont.binds (ps := ["self", "thing"]) fun _ _ _ _ _ _ us hl => match us, hl with | [_, _], _ => rfl⟩
  have F_seq := fun_mk (st := s_seq) l_seq o_seq k_seq
  have D_seq : MDf K "__eq__" "LengthSet.__eq__" s_seq ["self", "other"] f_seq _ := ⟨F_seq.g, F_seq.binds (ps := ["self", "other"]) fun _ _ _ _ _ _ us hl => match us, hl with | [_, _], _ => rfl⟩
  have F_sle := fun_mk (st := s_sle) l_sle o_sle k_sle
  have D_sle : MDf K "__le__" "LengthSet.__le__" s_sle ["self", "other"] f_sle _ := ⟨F_sle.g, F_sle.binds (ps := ["self", "other"]) fun _ _ _ _ _ _ us hl => match us, hl with | [_, _], _ => rfl⟩
  have F_sbool := fun_mk (st := s_sbool) l_sbool o_sbool k_sbool
  have D_sbool : MDf K "__bool__" "LengthSet.__bool__" s_sbool ["self"] f_sbool _ := ⟨F_sbool.g, F_sbool.binds (ps := ["self"]) fun _ _ _ _ _ _ us hl => match us, hl with | [_], _ => rfl⟩
  have F_sor := fun_mk (st := s_sor) l_sor o_sor k_sor
  have D_sor : MDf K "__or__" "LengthSet.__or__" s_sor ["self", "other"] f_sor _ := ⟨F_sor.g, F_sor.binds (ps := ["self", "other"]) fun _ _ _ _ _ _ us hl => match us, hl with | [_, _], _ => rfl⟩
  have F_sand := fun_mk (st := s_sand) l_sand o_sand k_sand
  have D_sand : MDf K "__and__" "LengthSet.__and__" s_sand ["self", "other"] f_sand _ := ⟨F_sand.g, F_sand.binds (ps := ["self", "other"]) fun _ _ _ _ _ _ us hl => match us, hl with | [_, _], _ => rfl⟩
  have F_sinv := fun_mk (st := s_sinv) l_sinv o_sinv k_sinv
  have D_sinv : MDf K "__invert__" "LengthSet.__invert__" s_sinv ["self"] f_sinv _ := ⟨F_sinv.g, F_sinv.binds (ps := ["self"]) fun _ _ _ _ _ _ us hl => match us, hl with | [_], _ => rfl⟩
  have F_ssub := fun_mk (st := s_ssub) l_ssub o_ssub k_ssub
  have D_ssub : MDf K "__sub__" "LengthSet.__sub__" s_ssub ["self", "other"] f_ssub _ := ⟨F_ssub.g, F_ssub.binds (ps := ["self", "other"]) fun _ _ _ _ _ _ us hl => match us, hl with | [_, _], _ => rfl⟩
  have F_sadd := fun_mk (st := s_sadd) l_sadd o_sadd k_sadd
  have D_sadd : MDf K "__add__" "LengthSet.__add__" s_sadd ["self", "other"] f_sadd _ := ⟨F_sadd.g, F_sadd.binds (ps := ["self", "other"]) fun _ _ _ _ _ _ us hl => match us, hl with | [_, _], _ => rfl⟩
  have F_sradd := fun_mk (st := s_sradd) l_sradd o_sradd k_sradd
  have D_sradd : MDf K "__radd__" "LengthSet.__radd__" s_sradd ["self", "other"] f_sradd _ := ⟨F_sradd.g, F_sradd.binds (ps := ["self", "other"]) fun _ _ _ _ _ _ us hl => match us, hl with | [_, _], _ => rfl⟩
  have F_pstart := fun_mk (st := s_pstart) l_pstart o_pstart k_pstart
  have D_pstart : MDf K "start" "LengthSet.start" s_pstart ["self"] f_pstart _ := ⟨F_pstart.g, F_pstart.binds (ps := ["self"]) fun _ _ _ _ _ _ us hl => match us, hl with | [_], _ => rfl⟩
  have F_pperiod := fun_mk (st := s_pperiod) l_pperiod o_pperiod k_pperiod
  have D_pperiod : MDf K "period" "LengthSet.period" s_pperiod ["self"] f_pperiod _ := ⟨F_pperiod.g, F_pperiod.binds (ps := ["self"]) fun _ _ _ _ _ _ us hl => match us, hl with | [_], _ => rfl⟩
  have F_below := fun_mk (st := s_below) l_below o_below k_below
  have D_below : MDf K "below" "LengthSet.below" s_below ["self", "bound"] f_below _ := ⟨F_below.g, F_below.binds (ps := ["self", "bound"]) fun _ _ _ _ _ _ us hl => match us, hl with | [_, _], _ => rfl⟩
  have F_snone := fun_mk (st := s_snone) l_snone o_snone k_snone
  have D_snone : MDf K "none" "LengthSet.none" s_snone [] f_snone _ := ⟨F_snone.g, F_snone.binds (ps := []) fun _ _ _ _ _ _ us hl => match us, hl with | [], _ => rfl⟩
  have F_only := fun_mk (st := s_only) l_only o_only k_only
  have D_only : MDg K "only" "LengthSet.only" s_only f_only _ := ⟨F_only.g⟩
  have F_finit := fun_mk (st := s_finit) l_finit o_finit k_finit
  have D_finit : MDg K "__init__" "Front.__init__" s_finit f_finit _ := ⟨F_finit.g⟩
  have F_fread := fun_mk (st := s_fread) l_fread o_fread k_fread
  have D_fread : MDf K "read" "Front.read" s_fread ["self"] f_fread _ := ⟨F_fread.g, F_fread.binds (ps := ["self"]) fun _ _ _ _ _ _ us hl => match us, hl with | [_], _ => rfl⟩
  have F_fpassed := fun_mk (st := s_fpassed) l_fpassed o_fpassed k_fpassed
  have D_fpassed : MDf K "passed" "Front.passed" s_fpassed ["self", "lengths"] f_fpassed _ := ⟨F_fpassed.g, F_fpassed.binds (ps := ["self", "lengths"]) fun _ _ _ _ _ _ us hl => match us, hl with | [_, _], _ => rfl⟩
  have F_fsets := fun_mk (st := s_fsets) l_fsets o_fsets k_fsets
  have D_fsets : MDf K "sets" "Front.sets" s_fsets ["self"] f_fsets _ := ⟨F_fsets.g, F_fsets.binds (ps := ["self"]) fun _ _ _ _ _ _ us hl => match us, hl with | [_], _ => rfl⟩
  have F_fperiod := fun_mk (st := s_fperiod) l_fperiod o_fperiod k_fperiod
  have D_fperiod : MDf K "period" "Front.period" s_fperiod ["self"] f_fperiod _ := ⟨F_fperiod.g, F_fperiod.binds (ps := ["self"]) fun _ _ _ _ _ _ us hl => match us, hl with | [_], _ => rfl⟩
  have F_fbool := fun_mk (st := s_fbool) l_fbool o_fbool k_fbool
  have D_fbool : MDf K "__bool__" "Front.__bool__" s_fbool ["self"] f_fbool _ := ⟨F_fbool.g, F_fbool.binds (ps := ["self"]) fun _ _ _ _ _ _ us hl => match us, hl with | [_], _ => rfl⟩
  have F_feq := fun_mk (st := s_feq) l_feq o_feq k_feq
  have D_feq : MDf K "__eq__" "Front.__eq__" s_feq ["self", "other"] f_feq _ := ⟨F_feq.g, F_feq.binds (ps := ["self", "other"]) fun _ _ _ _ _ _ us hl => match us, hl with | [_, _], _ => rfl⟩
  have F_for := fun_mk (st := s_for) l_for o_for k_for
  have D_for : MDf K "__or__" "Front.__or__" s_for ["self", "other"] f_for _ := ⟨F_for.g, F_for.binds (ps := ["self", "other"]) fun _ _ _ _ _ _ us hl => match us, hl with | [_, _], _ => rfl⟩
  have F_fand := fun_mk (st := s_fand) l_fand o_fand k_fand
  have D_fand : MDf K "__and__" "Front.__and__" s_fand ["self", "lefts"] f_fand _ := ⟨F_fand.g, F_fand.binds (ps := ["self", "lefts"]) fun _ _ _ _ _ _ us hl => match us, hl with | [_, _], _ => rfl⟩
  have F_fle := fun_mk (st := s_fle) l_fle o_fle k_fle
  have D_fle : MDf K "__le__" "Front.__le__" s_fle ["self", "other"] f_fle _ := ⟨F_fle.g, F_fle.binds (ps := ["self", "other"]) fun _ _ _ _ _ _ us hl => match us, hl with | [_, _], _ => rfl⟩
  let cA : Str → Addr := fun x => if x = "LengthSet" then a_LengthSet else if x = "Front" then a_Front else if x = "NoSet" then a_NoSet else a_TooLarge
  have e_LengthSet : cA "LengthSet" = a_LengthSet := by simp [cA, A.ofString_inj]
  have e_Front : cA "Front" = a_Front := by simp [cA, A.ofString_inj]
  have e_NoSet : cA "NoSet" = a_NoSet := by simp [cA, A.ofString_inj]
  have e_TooLarge : cA "TooLarge" = a_TooLarge := by simp [cA, A.ofString_inj]
  have G_LengthSet : mg "LengthSet" = some (.ref (cA "LengthSet")) := by rw [e_LengthSet]; exact PySem.W.mg_of X G g_LengthSet
  have c_LengthSet : Cls K (cA "LengthSet") := by rw [e_LengthSet]; exact c_LengthSet
  have n_LengthSet_first : NoAttr K (cA "LengthSet") "first" := by rw [e_LengthSet]; exact n_LengthSet_first
  have n_LengthSet_size : NoAttr K (cA "LengthSet") "size" := by rw [e_LengthSet]; exact n_LengthSet_size
  have n_LengthSet_members : NoAttr K (cA "LengthSet") "members" := by rw [e_LengthSet]; exact n_LengthSet_members
  have n_LengthSet_tail : NoAttr K (cA "LengthSet") "tail" := by rw [e_LengthSet]; exact n_LengthSet_tail
  have G_Front : mg "Front" = some (.ref (cA "Front")) := by rw [e_Front]; exact PySem.W.mg_of X G g_Front
  have c_Front : Cls K (cA "Front") := by rw [e_Front]; exact c_Front
  have n_Front_own_lefts : NoAttr K (cA "Front") "own_lefts" := by rw [e_Front]; exact n_Front_own_lefts
  have m_sinit : Mk K (cA "LengthSet") f_sinit := by rw [e_LengthSet]; exact m_sinit
  have m_scont : PySem.W.findIn K (.ref (cA "LengthSet")) "__contains__" = some (some (.ref f_scont)) := by rw [e_LengthSet]; exact m_scont
  have m_seq : PySem.W.findIn K (.ref (cA "LengthSet")) "__eq__" = some (some (.ref f_seq)) := by rw [e_LengthSet]; exact m_seq
  have m_sle : PySem.W.findIn K (.ref (cA "LengthSet")) "__le__" = some (some (.ref f_sle)) := by rw [e_LengthSet]; exact m_sle
  have m_sbool : PySem.W.findIn K (.ref (cA "LengthSet")) "__bool__" = some (some (.ref f_sbool)) := by rw [e_LengthSet]; exact m_sbool
  have m_sor : PySem.W.findIn K (.ref (cA "LengthSet")) "__or__" = some (some (.ref f_sor)) := by rw [e_LengthSet]; exact m_sor
  have m_sand : PySem.W.findIn K (.ref (cA "LengthSet")) "__and__" = some (some (.ref f_sand)) := by rw [e_LengthSet]; exact m_sand
  have m_sinv : PySem.W.findIn K (.ref (cA "LengthSet")) "__invert__" = some (some (.ref f_sinv)) := by rw [e_LengthSet]; exact m_sinv
  have m_ssub : PySem.W.findIn K (.ref (cA "LengthSet")) "__sub__" = some (some (.ref f_ssub)) := by rw [e_LengthSet]; exact m_ssub
  have m_sadd : PySem.W.findIn K (.ref (cA "LengthSet")) "__add__" = some (some (.ref f_sadd)) := by rw [e_LengthSet]; exact m_sadd
  have m_sradd : PySem.W.findIn K (.ref (cA "LengthSet")) "__radd__" = some (some (.ref f_sradd)) := by rw [e_LengthSet]; exact m_sradd
  have m_pstart : PropOf K (cA "LengthSet") "start" p_pstart f_pstart := by rw [e_LengthSet]; exact m_pstart
  have m_pperiod : PropOf K (cA "LengthSet") "period" p_pperiod f_pperiod := by rw [e_LengthSet]; exact m_pperiod
  have m_below : Meth K (cA "LengthSet") "below" f_below := by rw [e_LengthSet]; exact m_below
  have m1_snone : PySem.W.readsIn K (cA "LengthSet") (.type "type") = true := by rw [e_LengthSet]; exact m1_snone
  have m2_snone : PySem.W.specialIn K (.ref (cA "LengthSet")) "__getattribute__" = some (some (.builtin "type.__getattribute__")) := by rw [e_LengthSet]; exact m2_snone
  have m3_snone : PySem.W.findCls K (.ref (cA "LengthSet")) (.type "type") "none" = some (.get (.builtin "staticmethod.__get__") (.ref p_snone) .none (.ref (cA "LengthSet"))) := by rw [e_LengthSet]; exact m3_snone
  have m1_only : PySem.W.readsIn K (cA "LengthSet") (.type "type") = true := by rw [e_LengthSet]; exact m1_only
  have m2_only : PySem.W.specialIn K (.ref (cA "LengthSet")) "__getattribute__" = some (some (.builtin "type.__getattribute__")) := by rw [e_LengthSet]; exact m2_only
  have m3_only : PySem.W.findCls K (.ref (cA "LengthSet")) (.type "type") "only" = some (.get (.builtin "staticmethod.__get__") (.ref p_only) .none (.ref (cA "LengthSet"))) := by rw [e_LengthSet]; exact m3_only
  have m_finit : Mk K (cA "Front") f_finit := by rw [e_Front]; exact m_finit
  have m_fread : Meth K (cA "Front") "read" f_fread := by rw [e_Front]; exact m_fread
  have m_fpassed : Meth K (cA "Front") "passed" f_fpassed := by rw [e_Front]; exact m_fpassed
  have m_fsets : Meth K (cA "Front") "sets" f_fsets := by rw [e_Front]; exact m_fsets
  have m_fperiod : PropOf K (cA "Front") "period" p_fperiod f_fperiod := by rw [e_Front]; exact m_fperiod
  have m_fbool : PySem.W.findIn K (.ref (cA "Front")) "__bool__" = some (some (.ref f_fbool)) := by rw [e_Front]; exact m_fbool
  have m_feq : PySem.W.findIn K (.ref (cA "Front")) "__eq__" = some (some (.ref f_feq)) := by rw [e_Front]; exact m_feq
  have m_for : PySem.W.findIn K (.ref (cA "Front")) "__or__" = some (some (.ref f_for)) := by rw [e_Front]; exact m_for
  have m_fand : PySem.W.findIn K (.ref (cA "Front")) "__and__" = some (some (.ref f_fand)) := by rw [e_Front]; exact m_fand
  have m_fle : PySem.W.findIn K (.ref (cA "Front")) "__le__" = some (some (.ref f_fle)) := by rw [e_Front]; exact m_fle
  have xNoSet : XCls l.prog K mg "NoSet" (cA "NoSet") "place" := by rw [e_NoSet]; exact xNoSet
  have xTooLarge : XCls l.prog K mg "TooLarge" (cA "TooLarge") "limit" := by rw [e_TooLarge]; exact xTooLarge
  have i_LengthSet : C8.InsC K (cA "LengthSet") := by rw [e_LengthSet]; exact i_LengthSet
  have t_list : PySem.W.kitOne K (.type "list") (.ref (cA "LengthSet")) = some false := by rw [e_LengthSet]; exact t_list
  have t_tuple : PySem.W.kitOne K (.type "tuple") (.ref (cA "LengthSet")) = some false := by rw [e_LengthSet]; exact t_tuple
  have t_int : PySem.W.kitOne K (.type "int") (.ref (cA "LengthSet")) = some false := by rw [e_LengthSet]; exact t_int
  have t_NoneType : PySem.W.kitOne K (.type "NoneType") (.ref (cA "LengthSet")) = some false := by rw [e_LengthSet]; exact t_NoneType
  have t_str : PySem.W.kitOne K (.type "str") (.ref (cA "LengthSet")) = some false := by rw [e_LengthSet]; exact t_str
  have t_bool : PySem.W.kitOne K (.type "bool") (.ref (cA "LengthSet")) = some false := by rw [e_LengthSet]; exact t_bool
  have ne_LS : PySem.W.findIn K (.ref (cA "LengthSet")) "__ne__" = some (some (.builtin "object.__ne__")) := by rw [e_LengthSet]; exact ne_LS
  have ob_LS : PySem.W.subIn K (.ref (cA "LengthSet")) (.type "object") = some true := by rw [e_LengthSet]; exact ob_LS
  have sf_LS : PySem.W.selfFirst K (cA "LengthSet") = true := by rw [e_LengthSet]; exact sf_LS
  have nI_LS : PySem.W.subIn K (.ref (cA "LengthSet")) (.type "int") = some false := by rw [e_LengthSet]; exact nI_LS
  have sI_LS : PySem.W.subIn K (.type "int") (.ref (cA "LengthSet")) = some false := by rw [e_LengthSet]; exact sI_LS
  have mr_LS : (PySem.W.clsIn K (cA "LengthSet")).map (·.mro) = some [.ref (cA "LengthSet"), .type "object"] := by rw [e_LengthSet]; exact mr_LS
  have rs_LS : PySem.W.findIn K (.ref (cA "LengthSet")) "__rsub__" = some none := by rw [e_LengthSet]; exact rs_LS
  have i1_add : PySem.W.findIn K (.ref (cA "LengthSet")) "__iadd__" = some none := by rw [e_LengthSet]; exact i1_add
  have i1_sub : PySem.W.findIn K (.ref (cA "LengthSet")) "__isub__" = some none := by rw [e_LengthSet]; exact i1_sub
  have i_Front : C8.InsC K (cA "Front") := by rw [e_Front]; exact i_Front
  have tf_list : PySem.W.kitOne K (.type "list") (.ref (cA "Front")) = some false := by rw [e_Front]; exact tf_list
  have tf_tuple : PySem.W.kitOne K (.type "tuple") (.ref (cA "Front")) = some false := by rw [e_Front]; exact tf_tuple
  have tf_int : PySem.W.kitOne K (.type "int") (.ref (cA "Front")) = some false := by rw [e_Front]; exact tf_int
  have tf_NoneType : PySem.W.kitOne K (.type "NoneType") (.ref (cA "Front")) = some false := by rw [e_Front]; exact tf_NoneType
  have tf_str : PySem.W.kitOne K (.type "str") (.ref (cA "Front")) = some false := by rw [e_Front]; exact tf_str
  have tf_bool : PySem.W.kitOne K (.type "bool") (.ref (cA "Front")) = some false := by rw [e_Front]; exact tf_bool
  have nf_list : PySem.W.notFirst K (cA "Front") (.type "list") = true := by rw [e_Front]; exact nf_list
  have nf_tuple : PySem.W.notFirst K (cA "Front") (.type "tuple") = true := by rw [e_Front]; exact nf_tuple
  have ne_Fr : PySem.W.findIn K (.ref (cA "Front")) "__ne__" = some (some (.builtin "object.__ne__")) := by rw [e_Front]; exact ne_Fr
  have ob_Fr : PySem.W.subIn K (.ref (cA "Front")) (.type "object") = some true := by rw [e_Front]; exact ob_Fr
  have sf_Fr : PySem.W.selfFirst K (cA "Front") = true := by rw [e_Front]; exact sf_Fr
  have dif_FL : (cA "Front") ≠ (cA "LengthSet") := by rw [e_Front, e_LengthSet]; exact dif_FL
  have ra_Fr : PySem.W.findIn K (.ref (cA "Front")) "__rand__" = some none := by rw [e_Front]; exact ra_Fr
  have ra_LS : PySem.W.findIn K (.ref (cA "LengthSet")) "__rand__" = some none := by rw [e_LengthSet]; exact ra_LS
  have sb_LF : PySem.W.subIn K (.ref (cA "LengthSet")) (.ref (cA "Front")) = some false := by rw [e_LengthSet, e_Front]; exact sb_LF
  have m_snone : SMet K (cA "LengthSet") "none" f_snone := ⟨⟨m1_snone, m2_snone⟩, ⟨p_snone, m3_snone, rs_snone, m4_snone⟩, k_snone⟩
  have m_only : SMet K (cA "LengthSet") "only" f_only := ⟨⟨m1_only, m2_only⟩, ⟨p_only, m3_only, rs_only, m4_only⟩, k_only⟩
  refine ⟨PySem.W.fnOf "law" "law" (defArgs s_law) (defBody s_law) (defScope s_law) .none kV_law dc_law pm_law an_law cd_law ct_law, fun s v => .of_eq rfl, fun base _ _ => ?_⟩
  have L : LSc K cA mg := ⟨⟨c_LengthSet, n_LengthSet_first⟩, ⟨c_LengthSet, n_LengthSet_size⟩, ⟨c_LengthSet, n_LengthSet_members⟩, ⟨c_LengthSet, n_LengthSet_tail⟩, G_LengthSet⟩
  have cK := d_count (P := l.prog) (w := w) (base := base) (cA := cA) D_count T
  have cA1 := d_asc D_asc T cK
  have cC := d_check D_check T (PySem.W.mg_of X G gMo) xNoSet xTooLarge cK cA1
  have cF := d_flags0 (P := l.prog) (w := w) (base := base) (cA := cA) D_flags T
  have cP := d_sper (P := l.prog) (w := w) (base := base) (cA := cA) D_sper T
  have cS := d_short D_short T cP
  have fI := d_sinit D_sinit T L cC cF cS
  have rE : ∀ w N H, RelL ⟨K, cA⟩ w N H [.tup [], .int 0, .int 1, .tup []] [.ref aE_sinit, .int 0, .int 1, .ref aF_sinit] := fun w N H => by
    have t : Rel ⟨K, cA⟩ w N H (.tup []) (.ref aE_sinit) := .tup (.inr ⟨_, iE_sinit, _, lE_sinit, cE1_sinit, rfl, by rw [← Array.length_toList, ← vE_sinit.length]; exact Nat.zero_le _, vE_sinit⟩) .nil
    have t2 : Rel ⟨K, cA⟩ w N H (.tup []) (.ref aF_sinit) := .tup (.inr ⟨_, iF_sinit, _, lF_sinit, cF1_sinit, rfl, by rw [← Array.length_toList, ← vF_sinit.length]; exact Nat.zero_le _, vF_sinit⟩) .nil
    exact .cons t (.cons (.int 0) (.cons (.int 1) (.cons t2 .nil)))
  have mLS : MkF l.prog w K mg base ⟨K, cA⟩ 4 "LengthSet" "LengthSet" spMk := by
    obtain ⟨ds, hv, hb⟩ := b5_sinit
    cases hv
    exact ⟨_, ⟨f_sinit, m_sinit, G_LengthSet, fnR_of fI hb⟩, mk_init⟩
  have mLS0 : MkF l.prog w K mg base ⟨K, cA⟩ 4 "LengthSet" "LengthSet" (dflSp [.tup [], .int 0, .int 1, .tup []] spMk) := by
    obtain ⟨ds, hv, hb⟩ := b1_sinit
    exact ⟨_, ⟨f_sinit, m_sinit, G_LengthSet, fnR_dfl fI hb hv rE⟩, fun ds S Q E h => mk_init _ _ _ _ h⟩
  have mLS2 : MkF l.prog w K mg base ⟨K, cA⟩ 4 "LengthSet" "LengthSet" (dflSp [.int 1, .tup []] spMk) := by
    obtain ⟨ds, hv, hb⟩ := b3_sinit
    exact ⟨_, ⟨f_sinit, m_sinit, G_LengthSet, fnR_dfl fI hb hv fun w N H => (rE w N H).drop 2⟩, fun ds S Q E h => mk_init _ _ _ _ h⟩
  have hHas := d_scont D_scont T L cK m_scont i_scont
  have tiLS : ∀ T ∈ ["list", "tuple", "int", "NoneType", "str", "bool"], PySem.W.kitOne K (.type T) (.ref (cA "LengthSet")) = some false := by
    intro T hT
    simp only [List.mem_cons, List.not_mem_nil, or_false] at hT
    rcases hT with rfl | rfl | rfl | rfl | rfl | rfl <;> assumption
  have hEq := d_seq (P := l.prog) (w := w) (base := base) D_seq T L i_LengthSet tiLS m_seq i_seq
  have nLS : NeO K (cA "LengthSet") := ⟨ne_LS, ob_LS⟩
  have cPo := d_pool (P := l.prog) (w := w) (base := base) (cA := cA) D_pool T
  have cD := d_draw (P := l.prog) (w := w) (base := base) (cA := cA) D_draw T
  have cSo := d_lsome D_lsome T cD
  have cFi := d_lfields D_lfields T cD cSo
  have dA : PySem.dunder "add" = ("__add__" : Str) := by kernel_rfl
  have dS : PySem.dunder "sub" = ("__sub__" : Str) := by kernel_rfl
  have rA : dunderR "add" = ("__radd__" : Str) := by kernel_rfl
  have rS : dunderR "sub" = ("__rsub__" : Str) := by kernel_rfl
  have iA : PySem.dunderI "add" = ("__iadd__" : Str) := by kernel_rfl
  have iS : PySem.dunderI "sub" = ("__isub__" : Str) := by kernel_rfl
  have riAdd : RtI K (cA "LengthSet") "add" := ⟨by rw [dA]; exact h1_add, by rw [rA]; exact h2_add, sI_LS, ⟨_, by rw [rA]; exact m_sradd, .inr ⟨_, rfl⟩⟩⟩
  have riSub : RtI K (cA "LengthSet") "sub" := ⟨by rw [dS]; exact h1_sub, by rw [rS]; exact h2_sub, sI_LS, ⟨_, by rw [rS]; exact rs_LS, .inl rfl⟩⟩
  have niAdd : NoI K (cA "LengthSet") "add" := ⟨mr_LS, by rw [iA]; exact i1_add, by rw [iA]; exact i2_add⟩
  have niSub : NoI K (cA "LengthSet") "sub" := ⟨mr_LS, by rw [iS]; exact i1_sub, by rw [iS]; exact i2_sub⟩
  have RF : RadF K (cA "LengthSet") := ⟨sf_LS, ⟨_, m_sadd⟩, nI_LS⟩
  have cG := d_gcd (P := l.prog) (w := w) (base := base) (cA := cA) D_gcd T
  have cOf := d_ofFlags D_ofFlags T mLS
  have cFr := d_frame D_frame T L (PySem.W.mg_of X G gMo) xTooLarge cG
  have cJ := d_joined D_joined T L cFr cF cOf
  have cSh := d_isshift (P := l.prog) (w := w) (base := base) D_isshift T xNoSet
  have hBool := d_sbool (P := l.prog) (w := w) (base := base) D_sbool T L m_sbool i_sbool
  have hOr := d_sor D_sor T L i_LengthSet tiLS cJ m_sor i_sor
  have hAnd := d_sand D_sand T L i_LengthSet tiLS cJ m_sand i_sand
  have hLe := d_sle D_sle T L i_LengthSet tiLS cJ hBool m_sle i_sle
  have hInv := d_sinv D_sinv T L cF cOf m_sinv i_sinv
  have hSub := d_ssub D_ssub T L i_LengthSet tiLS cJ cSh hHas cOf m_ssub i_ssub
  have hAdd := d_sadd D_sadd T L (PySem.W.mg_of X G gMo) xTooLarge cSh cF cOf m_sadd i_sadd
  have hRadd := d_sradd D_sradd T L (PySem.W.mg_of X G gMo) xTooLarge cSh cF cOf m_sradd i_sradd
  have rEq : RtO K (cA "LengthSet") [] := ⟨i_LengthSet, by simp⟩
  have FR : FSc K cA mg := ⟨⟨c_Front, n_Front_own_lefts⟩, G_Front⟩
  have pSt := d_pstart (P := l.prog) (w := w) (mg := mg) (base := base) D_pstart L m_pstart
  have pPe := d_pperiod (P := l.prog) (w := w) (mg := mg) (base := base) D_pperiod L m_pperiod
  have gB := d_below D_below T L (PySem.W.mg_of X G gMB) cK cF m_below
  have sNone := d_snone D_snone T mLS0 m_snone
  have cGo := d_gone0 D_gone T L (PySem.W.mg_of X G gMF) cG mLS pSt pPe gB hHas
  have fFr := d_finit (P := l.prog) (w := w) (base := base) D_finit T L FR xNoSet i_LengthSet tiLS (bindStar1 (a := (defArgs s_finit).args.head!) (v := (defArgs s_finit).vararg.get!) rfl rfl rfl rfl rfl rfl)
  have mFr : MkF l.prog w K mg base ⟨K, cA⟩ 3 "Front" "Front" spFr := ⟨_, ⟨f_finit, m_finit, G_Front, fFr⟩, mk_finit⟩
  have mRe := d_fread D_fread T L FR hSub sf_LS riSub mFr m_fread
  have mPs := d_fpassed D_fpassed T L FR sNone hOr hAnd hBool sf_LS mFr mLS cGo m_fpassed
  have mSe := d_fsets (P := l.prog) (w := w) (base := base) D_fsets T FR m_fsets
  have pFp := d_fperiod (P := l.prog) (w := w) (base := base) D_fperiod T FR m_fperiod
  have hBoolF := d_fbool D_fbool T L FR hBool m_fbool i_fbool
  have tiFr : ∀ T ∈ ["list", "tuple", "int", "NoneType", "str", "bool"], PySem.W.kitOne K (.type T) (.ref (cA "Front")) = some false := by
    intro T hT
    simp only [List.mem_cons, List.not_mem_nil, or_false] at hT
    rcases hT with rfl | rfl | rfl | rfl | rfl | rfl <;> assumption
  have rF : RtO K (cA "Front") ["list", "tuple"] := ⟨i_Front, by
    intro T hT
    simp only [List.mem_cons, List.not_mem_nil, or_false] at hT
    rcases hT with rfl | rfl <;> assumption⟩
  have nFr : NeO K (cA "Front") := ⟨ne_Fr, ob_Fr⟩
  have dN : PySem.dunder "and" = ("__and__" : Str) := by kernel_rfl
  have rN : dunderR "and" = ("__rand__" : Str) := by kernel_rfl
  have oth : Oth K (cA "Front") (cA "LengthSet") "and" := ⟨dif_FL, sf_LS, ⟨_, by rw [dN]; exact m_sand⟩, by rw [rN]; exact ra_Fr, by rw [rN]; exact ra_LS, sb_LF⟩
  have sOnly := d_only D_only T L xNoSet cK mLS0 mLS2 (bindStar0 (v := (defArgs s_only).vararg.get!) rfl rfl rfl rfl rfl rfl) m_only
  have hEqF := d_feq D_feq T L FR i_Front tiFr hEq m_feq i_feq
  have hOrF := d_for D_for T L FR i_Front tiFr hOr sf_LS mFr m_for i_for
  have hAndF := d_fand D_fand T L FR i_LengthSet tiLS hAnd sf_LS mFr m_fand i_fand
  have hLeF := d_fle D_fle T L FR i_Front tiFr hLe rEq m_fle i_fle
  have cMa := d_lmade2 D_lmade T mLS
  have cFr2 := d_lfront D_lfront T mFr
  have cPr := d_lpairs D_lpairs T mSe pFp
  exact (d_law D_law T L FR cPo cD cFi cMa cFr2 cPr mRe mPs mSe sOnly sNone hOr hAnd hLe hEq rEq sf_LS hOrF hAndF hLeF hEqF hBoolF rF nFr sf_Fr oth).imp fun vs H Q E h => top_of (fun ns S Q E hl hq => ⟨ns, rfl, hl, hq⟩) h
theorem walk {l : PySem.W.OpenLaw} {q : Program} {loose : List Str} {XP : (Str → Option Value) → Heap → Prop} {YP : World → Heap → Prop} {d : DefRec} {K : Params → PySem.W.Frag} (hn : l.most = some 63) (hdf : d.params.defaults = [])
    (hY : ∀ (w : World) (h : Heap), YP w h → (K w.params).In h)
    (F : ∀ (w : World) (mg : Str → Option Value) (fa : Addr) (h : Heap), (K w.params).In h → h.Ns mainGlobals mg → mg d.name = some (.ref fa) →
      ∃ fd : FuncData, (∀ (s : Shared) (u : Value), BindsTo s fd ⟨[u], []⟩ [("script", u)]) ∧ ∀ base : Heap, (K w.params).In base → base.Ns mainGlobals mg → FnOk l.prog w (K w.params) mg base (L2N.CX l.prog w) 13 fa fd ["script"] (A.spTop (K w.params))) :
    PySem.W.WalkO q loose XP YP l.row.toRowW d [] (fun f vs => PySem.call f vs) :=
  L2.walk_of (n := 63) (k := 13) (x := "script") (CX := fun w => L2N.CX l.prog w) (sp := fun w => A.spTop (K w.params)) hn (by decide) hdf ⟨rfl, by decide, by decide⟩ hY F (fun _ _ a ns hl hO hS => ⟨a, ns, rfl, hO, hS, hl, fun _ => rfl⟩) fun _ _ _ _ _ ⟨_, _, _, _, _, _, _, _, _, _, _, _, z⟩ => z

end W

set_option Elab.async false
set_option linter.all false
set_option pp.maxSteps 60
set_option pp.deepTerms false
open PySem PySem.W PySem.Calls PyProof.Rows
set_option maxRecDepth 100000 in
set_option maxHeartbeats 0 in
theorem PySem.Challenge.cw_withinlimits_k54_fronts_side_by_side_holds : PySem.Challenge.rw_withinlimits_k54_fronts_side_by_side.Holds := by
  w_on; o_law
  refine HandSHeadRun.head_any (r := W.hRow) (q := W.hView) (H := kHook W.kd.heap_1 W.hAs W.hAsE) (ob := fun s => List.map (HandSHeadRun.getT s) W.hAs) (M := 30000) (loose := W.hLoose) (d := HandSHeadRun.topDef W.hRow.prog 33) (kwd := []) (fun s => W.hOb s) (by kernel_rfl) (fun s => by kernel_rfl) W.hRun (by kernel_rfl) (by kernel_rfl) (by kernel_rfl) (by rfl) (by first | assumption | decide +kernel) (by decide +kernel) ⟨rfl, rfl, rfl, rfl, rfl, by decide +kernel⟩ ?_ ?_
  · w_witness2
  k_fill
  refine W.walk (l := PySem.Challenge.rw_withinlimits_k54_fronts_side_by_side) rfl (by kernel_rfl) (fun w h Y => PySem.W.kIn_of Y) ?F
  case F =>
    intro w mg fa h KX G hmg0
    have hmg : mg ("law" : PySem.Str) = some (.ref fa) := by
      have e : (HandSHeadRun.topDef W.hRow.prog 33).name = ("law" : PySem.Str) := by kernel_rfl
      rw [← e]
      exact hmg0
    refine' W.all_mk KX G hmg ?a_count ?a_asc ?a_check ?a_flags ?a_sper ?a_short ?a_gcd ?a_ofFlags ?a_frame ?a_joined ?a_isshift ?a_gone ?a_pool ?a_draw ?a_lsome ?a_lfields ?a_lmade ?a_lfront ?a_lpairs ?a_law ?g_LengthSet ?c_LengthSet ?n_LengthSet_first ?n_LengthSet_size ?n_LengthSet_members ?n_LengthSet_tail ?g_Front ?c_Front ?n_Front_own_lefts ?m_sinit ?m_scont ?i_scont ?m_seq ?i_seq ?m_sle ?i_sle ?m_sbool ?i_sbool ?m_sor ?i_sor ?m_sand ?i_sand ?m_sinv ?i_sinv ?m_ssub ?i_ssub ?m_sadd ?i_sadd ?m_sradd ?i_sradd ?m_pstart ?m_pperiod ?m_below ?m1_snone ?m2_snone ?m3_snone ?m4_snone ?m1_only ?m2_only ?m3_only ?m4_only ?m_finit ?m_fread ?m_fpassed ?m_fsets ?m_fperiod ?m_fbool ?i_fbool ?m_feq ?i_feq ?m_for ?i_for ?m_fand ?i_fand ?m_fle ?i_fle ?xNoSet ?xTooLarge ?i_LengthSet ?t_list ?t_tuple ?t_int ?t_NoneType ?t_str ?t_bool ?ne_LS ?ob_LS ?sf_LS ?nI_LS ?sI_LS ?mr_LS ?rs_LS ?i1_add ?i2_add ?h1_add ?h2_add ?i1_sub ?i2_sub ?h1_sub ?h2_sub ?i_Front ?tf_list ?tf_tuple ?tf_int ?tf_NoneType ?tf_str ?tf_bool ?nf_list ?nf_tuple ?ne_Fr ?ob_Fr ?sf_Fr ?dif_FL ?ra_Fr ?ra_LS ?sb_LF ?l_count ?o_count ?k_count ?l_asc ?o_asc ?k_asc ?l_check ?o_check ?k_check ?l_flags ?o_flags ?k_flags ?l_sper ?o_sper ?k_sper ?l_short ?o_short ?k_short ?l_gcd ?o_gcd ?k_gcd ?l_ofFlags ?o_ofFlags ?k_ofFlags ?l_frame ?o_frame ?k_frame ?l_joined ?o_joined ?k_joined ?l_isshift ?o_isshift ?k_isshift ?l_gone ?o_gone ?k_gone ?l_pool ?o_pool ?k_pool ?l_draw ?o_draw ?k_draw ?l_lsome ?o_lsome ?k_lsome ?l_lfields ?o_lfields ?k_lfields ?l_lmade ?o_lmade ?k_lmade ?l_lfront ?o_lfront ?k_lfront ?l_lpairs ?o_lpairs ?k_lpairs ?l_law ?o_law ?k_law ?l_sinit ?o_sinit ?k_sinit ?lT_sinit ?vT_sinit ?lE_sinit ?cE1_sinit ?vE_sinit ?lF_sinit ?cF1_sinit ?vF_sinit ?l_scont ?o_scont ?k_scont ?l_seq ?o_seq ?k_seq ?l_sle ?o_sle ?k_sle ?l_sbool ?o_sbool ?k_sbool ?l_sor ?o_sor ?k_sor ?l_sand ?o_sand ?k_sand ?l_sinv ?o_sinv ?k_sinv ?l_ssub ?o_ssub ?k_ssub ?l_sadd ?o_sadd ?k_sadd ?l_sradd ?o_sradd ?k_sradd ?l_pstart ?o_pstart ?k_pstart ?l_pperiod ?o_pperiod ?k_pperiod ?l_below ?o_below ?k_below ?l_snone ?o_snone ?k_snone ?l_only ?o_only ?k_only ?l_finit ?o_finit ?k_finit ?l_fread ?o_fread ?k_fread ?l_fpassed ?o_fpassed ?k_fpassed ?l_fsets ?o_fsets ?k_fsets ?l_fperiod ?o_fperiod ?k_fperiod ?l_fbool ?o_fbool ?k_fbool ?l_feq ?o_feq ?k_feq ?l_for ?o_for ?k_for ?l_fand ?o_fand ?k_fand ?l_fle ?o_fle ?k_fle ?gMo ?gMB ?gMF ?z_len ?z_abs ?z_int ?z_str ?z_range ?z_list ?z_tuple ?z_dict ?z_sum ?z_isinstance ?z_enumerate ?z_zip ?z_max ?z_min ?z_bool ?z_any ?z_all ?z_sorted ?z_set
    (case a_count => k_is)
    (case a_asc => k_is)
    (case a_check => k_is)
    (case a_flags => k_is)
    (case a_sper => k_is)
    (case a_short => k_is)
    (case a_gcd => k_is)
    (case a_ofFlags => k_is)
    (case a_frame => k_is)
    (case a_joined => k_is)
    (case a_isshift => k_is)
    (case a_gone => k_is)
    (case a_pool => k_is)
    (case a_draw => k_is)
    (case a_lsome => k_is)
    (case a_lfields => k_is)
    (case a_lmade => k_is)
    (case a_lfront => k_is)
    (case a_lpairs => k_is)
    (case a_law => k_is)
    (case g_LengthSet => k_is)
    (case c_LengthSet => exact ⟨by k_is, by k_is, by k_is, by k_is⟩)
    (case n_LengthSet_first => (unfold L2.NoAttr; k_is))
    (case n_LengthSet_size => (unfold L2.NoAttr; k_is))
    (case n_LengthSet_members => (unfold L2.NoAttr; k_is))
    (case n_LengthSet_tail => (unfold L2.NoAttr; k_is))
    (case g_Front => k_is)
    (case c_Front => exact ⟨by k_is, by k_is, by k_is, by k_is⟩)
    (case n_Front_own_lefts => (unfold L2.NoAttr; k_is))
    (case m_sinit => exact ⟨by k_is, by k_is, by k_is, by k_is⟩)
    (case m_scont => k_is)
    (case i_scont => k_is)
    (case m_seq => k_is)
    (case i_seq => k_is)
    (case m_sle => k_is)
    (case i_sle => k_is)
    (case m_sbool => k_is)
    (case i_sbool => k_is)
    (case m_sor => k_is)
    (case i_sor => k_is)
    (case m_sand => k_is)
    (case i_sand => k_is)
    (case m_sinv => k_is)
    (case i_sinv => k_is)
    (case m_ssub => k_is)
    (case i_ssub => k_is)
    (case m_sadd => k_is)
    (case i_sadd => k_is)
    (case m_sradd => k_is)
    (case i_sradd => k_is)
    (case m_pstart => exact ⟨by k_is, by k_is, by k_is, ⟨_, by k_is⟩⟩)
    (case m_pperiod => exact ⟨by k_is, by k_is, by k_is, ⟨_, by k_is⟩⟩)
    (case m_below => exact ⟨by k_is, by k_is, by k_is⟩)
    (case m1_snone => (first | k_is | kernel_rfl))
    (case m2_snone => k_is)
    (case m3_snone => k_is)
    (case m4_snone => k_is)
    (case m1_only => (first | k_is | kernel_rfl))
    (case m2_only => k_is)
    (case m3_only => k_is)
    (case m4_only => k_is)
    (case m_finit => exact ⟨by k_is, by k_is, by k_is, by k_is⟩)
    (case m_fread => exact ⟨by k_is, by k_is, by k_is⟩)
    (case m_fpassed => exact ⟨by k_is, by k_is, by k_is⟩)
    (case m_fsets => exact ⟨by k_is, by k_is, by k_is⟩)
    (case m_fperiod => exact ⟨by k_is, by k_is, by k_is, ⟨_, by k_is⟩⟩)
    (case m_fbool => k_is)
    (case i_fbool => k_is)
    (case m_feq => k_is)
    (case i_feq => k_is)
    (case m_for => k_is)
    (case i_for => k_is)
    (case m_fand => k_is)
    (case i_fand => k_is)
    (case m_fle => k_is)
    (case i_fle => k_is)
    (case xNoSet => (refine' L2.XCls.of ?wd KX G ?gC ?cls ?rv ?iC ?tI ?fn ?ps ?cd ?cv ?fl ?fm ?ce ?ini ?sa ?noN ?hD ?subD ?subV ?opq ?sup ?top ?kC ?exC ?tyC ?ga ?gg ?hdC ?su; (case gC => k_is); (case cls => k_is); (case rv => rfl); (case iC => k_is); (case tI => k_is); (case fn => k_is); (case wd => exact ⟨fun _ _ _ _ _ _ _ _ _ _ _ _ => rfl, rfl, rfl, rfl, rfl, by decide, by decide⟩); (case ps => rfl); (case cd => k_is); (case cv => k_is); (case fl => rfl); (case fm => decide +kernel); (case ce => k_is); (case ini => kx_is); (case sa => k_is); (case noN => k_is); (case hD => k_is); (case subD => k_is); (case subV => k_is); (case opq => k_is); (case sup => ks_is); (case top => decide +kernel); (case kC => k_is); (case exC => k_is); (case tyC => k_is); (case ga => k_is); (case gg => k_is); (case hdC => k_is); (case su => k_is)))
    (case xTooLarge => (refine' L2.XCls.of ?wd KX G ?gC ?cls ?rv ?iC ?tI ?fn ?ps ?cd ?cv ?fl ?fm ?ce ?ini ?sa ?noN ?hD ?subD ?subV ?opq ?sup ?top ?kC ?exC ?tyC ?ga ?gg ?hdC ?su; (case gC => k_is); (case cls => k_is); (case rv => rfl); (case iC => k_is); (case tI => k_is); (case fn => k_is); (case wd => exact ⟨fun _ _ _ _ _ _ _ _ _ _ _ _ => rfl, rfl, rfl, rfl, rfl, by decide, by decide⟩); (case ps => rfl); (case cd => k_is); (case cv => k_is); (case fl => rfl); (case fm => decide +kernel); (case ce => k_is); (case ini => kx_is); (case sa => k_is); (case noN => k_is); (case hD => k_is); (case subD => k_is); (case subV => k_is); (case opq => k_is); (case sup => ks_is); (case top => decide +kernel); (case kC => k_is); (case exC => k_is); (case tyC => k_is); (case ga => k_is); (case gg => k_is); (case hdC => k_is); (case su => k_is)))
    (case i_LengthSet => exact ⟨⟨by k_is, by k_is, by k_is, by k_is⟩, by k_is, by k_is, by k_is, by k_is, if_pos (beq_self_eq_true _)⟩)
    (case t_list => (first | k_is | kernel_rfl))
    (case t_tuple => (first | k_is | kernel_rfl))
    (case t_int => (first | k_is | kernel_rfl))
    (case t_NoneType => (first | k_is | kernel_rfl))
    (case t_str => (first | k_is | kernel_rfl))
    (case t_bool => (first | k_is | kernel_rfl))
    (case ne_LS => k_is)
    (case ob_LS => (first | k_is | kernel_rfl))
    (case sf_LS => (first | k_is | kernel_rfl))
    (case nI_LS => (first | k_is | kernel_rfl))
    (case sI_LS => (first | k_is | kernel_rfl))
    (case mr_LS => (first | k_is | kernel_rfl))
    (case rs_LS => k_is)
    (case i1_add => k_is)
    (case i2_add => k_is)
    (case h1_add => (first | k_is | kernel_rfl))
    (case h2_add => (first | k_is | kernel_rfl))
    (case i1_sub => k_is)
    (case i2_sub => k_is)
    (case h1_sub => (first | k_is | kernel_rfl))
    (case h2_sub => (first | k_is | kernel_rfl))
    (case i_Front => exact ⟨⟨by k_is, by k_is, by k_is, by k_is⟩, by k_is, by k_is, by k_is, by k_is, if_pos (beq_self_eq_true _)⟩)
    (case tf_list => (first | k_is | kernel_rfl))
    (case tf_tuple => (first | k_is | kernel_rfl))
    (case tf_int => (first | k_is | kernel_rfl))
    (case tf_NoneType => (first | k_is | kernel_rfl))
    (case tf_str => (first | k_is | kernel_rfl))
    (case tf_bool => (first | k_is | kernel_rfl))
    (case nf_list => (first | k_is | kernel_rfl))
    (case nf_tuple => (first | k_is | kernel_rfl))
    (case ne_Fr => k_is)
    (case ob_Fr => (first | k_is | kernel_rfl))
    (case sf_Fr => (first | k_is | kernel_rfl))
    (case dif_FL => decide)
    (case ra_Fr => k_is)
    (case ra_LS => k_is)
    (case sb_LF => (first | k_is | kernel_rfl))
    (case l_count => k_is)
    (case o_count => k_is)
    (case k_count => k_is)
    (case l_asc => k_is)
    (case o_asc => k_is)
    (case k_asc => k_is)
    (case l_check => k_is)
    (case o_check => k_is)
    (case k_check => k_is)
    (case l_flags => k_is)
    (case o_flags => k_is)
    (case k_flags => k_is)
    (case l_sper => k_is)
    (case o_sper => k_is)
    (case k_sper => k_is)
    (case l_short => k_is)
    (case o_short => k_is)
    (case k_short => k_is)
    (case l_gcd => k_is)
    (case o_gcd => k_is)
    (case k_gcd => k_is)
    (case l_ofFlags => k_is)
    (case o_ofFlags => k_is)
    (case k_ofFlags => k_is)
    (case l_frame => k_is)
    (case o_frame => k_is)
    (case k_frame => k_is)
    (case l_joined => k_is)
    (case o_joined => k_is)
    (case k_joined => k_is)
    (case l_isshift => k_is)
    (case o_isshift => k_is)
    (case k_isshift => k_is)
    (case l_gone => k_is)
    (case o_gone => k_is)
    (case k_gone => k_is)
    (case l_pool => k_is)
    (case o_pool => k_is)
    (case k_pool => k_is)
    (case l_draw => k_is)
    (case o_draw => k_is)
    (case k_draw => k_is)
    (case l_lsome => k_is)
    (case o_lsome => k_is)
    (case k_lsome => k_is)
    (case l_lfields => k_is)
    (case o_lfields => k_is)
    (case k_lfields => k_is)
    (case l_lmade => k_is)
    (case o_lmade => k_is)
    (case k_lmade => k_is)
    (case l_lfront => k_is)
    (case o_lfront => k_is)
    (case k_lfront => k_is)
    (case l_lpairs => k_is)
    (case o_lpairs => k_is)
    (case k_lpairs => k_is)
    (case l_law => k_is)
    (case o_law => k_is)
    (case k_law => k_is)
    (case l_sinit => k_is)
    (case o_sinit => k_is)
    (case k_sinit => k_is)
    (case lT_sinit => k_is)
    (case vT_sinit => (first | exact .cons rfl (.cons ⟨_, rfl⟩ (.cons ⟨_, rfl⟩ (.cons rfl .nil))) | (repeat' constructor)))
    (case lE_sinit => k_is)
    (case cE1_sinit => rfl)
    (case vE_sinit => (first | exact .nil | (repeat' constructor)))
    (case lF_sinit => k_is)
    (case cF1_sinit => rfl)
    (case vF_sinit => (first | exact .nil | (repeat' constructor)))
    (case l_scont => k_is)
    (case o_scont => k_is)
    (case k_scont => k_is)
    (case l_seq => k_is)
    (case o_seq => k_is)
    (case k_seq => k_is)
    (case l_sle => k_is)
    (case o_sle => k_is)
    (case k_sle => k_is)
    (case l_sbool => k_is)
    (case o_sbool => k_is)
    (case k_sbool => k_is)
    (case l_sor => k_is)
    (case o_sor => k_is)
    (case k_sor => k_is)
    (case l_sand => k_is)
    (case o_sand => k_is)
    (case k_sand => k_is)
    (case l_sinv => k_is)
    (case o_sinv => k_is)
    (case k_sinv => k_is)
    (case l_ssub => k_is)
    (case o_ssub => k_is)
    (case k_ssub => k_is)
    (case l_sadd => k_is)
    (case o_sadd => k_is)
    (case k_sadd => k_is)
    (case l_sradd => k_is)
    (case o_sradd => k_is)
    (case k_sradd => k_is)
    (case l_pstart => k_is)
    (case o_pstart => k_is)
    (case k_pstart => k_is)
    (case l_pperiod => k_is)
    (case o_pperiod => k_is)
    (case k_pperiod => k_is)
    (case l_below => k_is)
    (case o_below => k_is)
    (case k_below => k_is)
    (case l_snone => k_is)
    (case o_snone => k_is)
    (case k_snone => k_is)
    (case l_only => k_is)
    (case o_only => k_is)
    (case k_only => k_is)
    (case l_finit => k_is)
    (case o_finit => k_is)
    (case k_finit => k_is)
    (case l_fread => k_is)
    (case o_fread => k_is)
    (case k_fread => k_is)
    (case l_fpassed => k_is)
    (case o_fpassed => k_is)
    (case k_fpassed => k_is)
    (case l_fsets => k_is)
    (case o_fsets => k_is)
    (case k_fsets => k_is)
    (case l_fperiod => k_is)
    (case o_fperiod => k_is)
    (case k_fperiod => k_is)
    (case l_fbool => k_is)
    (case o_fbool => k_is)
    (case k_fbool => k_is)
    (case l_feq => k_is)
    (case o_feq => k_is)
    (case k_feq => k_is)
    (case l_for => k_is)
    (case o_for => k_is)
    (case k_for => k_is)
    (case l_fand => k_is)
    (case o_fand => k_is)
    (case k_fand => k_is)
    (case l_fle => k_is)
    (case o_fle => k_is)
    (case k_fle => k_is)
    (case gMo => k_is)
    (case gMB => k_is)
    (case gMF => k_is)
    (case z_len => k_is)
    (case z_abs => k_is)
    (case z_int => k_is)
    (case z_str => k_is)
    (case z_range => k_is)
    (case z_list => k_is)
    (case z_tuple => k_is)
    (case z_dict => k_is)
    (case z_sum => k_is)
    (case z_isinstance => k_is)
    (case z_enumerate => k_is)
    (case z_zip => k_is)
    (case z_max => k_is)
    (case z_min => k_is)
    (case z_bool => k_is)
    (case z_any => k_is)
    (case z_all => k_is)
    (case z_sorted => k_is)
    (case z_set => k_is)

