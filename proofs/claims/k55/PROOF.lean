import PyProof.Rows.All
import Wide.All
import OpenK.AllK
import Wide.FinOn
import HandS.Head0
import HandS.Head1
import HandS.Head2
import KE.KStateDown
import PyProof.RulesMatch
import HandS.ForMost
import HandS.Codes
import HandS.Star
import HandS.IsInst
import HandS.TupAny
import HandS.Evl
import HandS.Walk
import HandS.Zip
import KE.GoesZip
import KE.GoesMore
import PyProof.EqAt
import PyProof.EqKinds
import PyProof.TupleCall
import Open.SpecLaws
import KE.OsGo
import KE.KExcSuper
import HandS.ForSpec
import HandS.Exc
import HandS.ExcCtx
import HandS.TryMany
import HandS.ExcField
import HandS.ExcIs
import KE.KExcIs
import HandS.More
import HandS.SlotsOwn
import KE.KOpsOwn
import PyProof.InstEq
import HandS.Property
import HandS.MakeKw
import HandS.Wide
import HandS.Deep
import HandS.TupMul
import HandS.ExcInit
import KE.KWithOwn
import HandS.Finally
import HandS.HotCalls
import HandS.Defaults
import KE.KCallOwn
import HandS.Hot
import HandS.Style
import HandS.Records
import PyProof.MeetsIn
import PyProof.Rows.Range3
import PyProof.P3In
import PySem.Challenge.RW_withinlimits_k55_checks_of_readers
set_option Elab.async false
set_option linter.all false
namespace W
open PySem
def hLo0 : List PySem.Str := ["_wall", "__name__", "LimitError", "NoPart", "NoRow", "NoWord", "Stopped", "Refused", "Beyond", "Endless", "MOST_CELLS", "GREATEST", "LIMITS", "RESTS", "is_whole", "is_between", "is_one_of", "row_of", "check_length", "check_bounds", "Limit", "Cursor", "HOWS", "LENGTHS", "MOST_PARTS", "MOST_UNROLLED", "MOST_DEPTH", "HIGHEST", "is_option", "are_options"]
def hLo1 : List PySem.Str := ["is_most", "is_cell", "is_limit", "has_form", "children", "size_of", "asks", "first_wrong", "count_of", "unrolled", "wrong_path", "check_part", "subparts", "has_path", "part_at", "with_children", "replaced", "Outcome", "Walk", "Reader", "EMPTY", "how_index", "with_field", "own_words", "sites", "without_word", "check_sites", "without", "kept", "format_of"]
def hLo2 : List PySem.Str := ["is_same_format", "_law_pool", "_law_draw", "_law_children", "_law_size", "_law_leaf", "_law_options", "_law_counted", "_law_within", "_law_part", "_law_checks", "_law_field", "_law_less", "_law_without", "_law_kept", "_law_wrong", "_law_takes"]
def hLoose : List PySem.Str := hLo0 ++ hLo1 ++ hLo2
abbrev hRow : PySem.W.OpenRow := PySem.W.OpenLaw.row PySem.Challenge.rw_withinlimits_k55_checks_of_readers
def hView : Program := PySem.W.view hRow.prog [82]
theorem hOb {as : List Addr} (s : PySem.W.SharedT) : as.map (HandSHeadRun.getT s) = as.map s.abs.heap.get? := List.map_congr_left fun a _ => HandSHeadRun.getT_eq s a
section
open PySem.W
local macro_rules | `(tactic| o_head (kHook $k $a $p)) => `(tactic| assumption)
set_option maxRecDepth 100000 in
set_option maxHeartbeats 0 in
theorem kd (h : hRow.Holds) : hRow.Holds := by
  k_head
end
def hP : Params := { strHash := fun _ => 0, shareClass := fun _ => 0, mergeTok := fun t => t, idOf := fun _ => 0, idOfShared := fun _ _ => 0, followText := fun _ => false, idOfImm := fun _ => 0 }
noncomputable def hAs : List Addr := (kd.heap_1 hP).map (·.1)
theorem hAsE (P : Params) : hAs = (kd.heap_1 P).map (·.1) := by kernel_rfl
set_option maxRecDepth 100000 in
set_option maxHeartbeats 0 in
theorem hRunF (w : World) : HandSHeadRun.RunEq hRow hView (PySem.W.kHook kd.heap_1 hAs hAsE) (fun s => List.map (HandSHeadRun.getT s) hAs) 30000 hLoose (w.withFollow "special-get-raises" false) := by
  intro os
  kernel_rfl
set_option maxRecDepth 100000 in
set_option maxHeartbeats 0 in
theorem hRunT (w : World) : HandSHeadRun.RunEq hRow hView (PySem.W.kHook kd.heap_1 hAs hAsE) (fun s => List.map (HandSHeadRun.getT s) hAs) 30000 hLoose (w.withFollow "special-get-raises" true) := by
  intro os
  kernel_rfl
theorem hRun (w : World) : HandSHeadRun.RunEq hRow hView (PySem.W.kHook kd.heap_1 hAs hAsE) (fun s => List.map (HandSHeadRun.getT s) hAs) 30000 hLoose w := PySem.W.byRow2 "special-get-raises" (P := fun w => HandSHeadRun.RunEq hRow hView (PySem.W.kHook kd.heap_1 hAs hAsE) (fun s => List.map (HandSHeadRun.getT s) hAs) 30000 hLoose w) hRunF hRunT w

end W

set_option Elab.async false
set_option linter.all false
set_option maxRecDepth 100000
set_option maxHeartbeats 4000000
namespace L2
open PySem PySem.Spec PyProof.Rows

/-! ### match upon texts -/
section
variable {X : Cx}
/-- a pattern that asks a text -/
structure PPt (X : Cx) (p : Pattern) (f : Str → Bool) : Prop where
  run : ∀ (pins : List (Addr × Obj)) (s : Shared) (σ : L2.St) (H : Hp) (y : Str) (u : Value), Inv X pins σ H s → RelV (.str y) u →
    wpAny (model X.prog X.w) X.A (matchPattern p X.env u) (fun r s' => Inv X pins σ H s' ∧ r = if f y = true then some [] else none) X.xe s
structure PFs (X : Cx) (ps : List Pattern) (f : Str → Bool) : Prop where
  run : ∀ (pins : List (Addr × Obj)) (s : Shared) (σ : L2.St) (H : Hp) (y : Str) (u : Value), Inv X pins σ H s → RelV (.str y) u →
    wpAny (model X.prog X.w) X.A (matchFirst ps X.env u) (fun r s' => Inv X pins σ H s' ∧ r = if f y = true then some [] else none) X.xe s
structure PCs (X : Cx) (cs : List MatchCase) (t : V → TS) : Prop where
  run : ∀ (first : Bool) (pins : List (Addr × Obj)) (s : Shared) (σ : L2.St) (H : Hp) (D : Ends) (x : V) (u : Value), Inv X pins σ H s → RelV x u → t x D σ H →
    wpAny (model X.prog X.w) X.A (matchCases cs X.env u first) (SP X pins D) X.xe s
theorem pp_val {z : Str} {j p pos} : PPt X (.MatchValue (.Constant (.str z) j p) pos) (fun y => decide (y = z)) := by
  refine ⟨fun pins s σ H y u I r => ?_⟩
  refine wpAny_matchPattern_Value ?_
  refine thn (pe_str.run pins s σ H (fun v H' => v = .str z ∧ H' = H) I ⟨rfl, rfl⟩) fun x s1 ⟨v, H1, I1, r1, e1, e2⟩ => ?_
  subst e1 e2
  refine thn (op_eq pins s1 σ H1 (.str y) (.str z) u x (fun w H' => w = .bl (decide (V.str y = V.str z)) ∧ H' = H1) I1 r r1 ⟨rfl, rfl, rfl⟩) fun c s2 ⟨w, H2, I2, r2, e1, e2⟩ => ?_
  subst e1 e2
  cases r2
  refine wpAny_truthy_bool ?_
  by_cases h : y = z
  · subst h
    simp [I2]
  · simp [I2, h]
def fNil : Str → Bool := fun _ => false
def fOr (f g : Str → Bool) : Str → Bool := fun y => f y || g y
theorem pf_nil : PFs X [] fNil := ⟨fun pins s σ H y u I r => wpAny_matchFirst_nil ⟨I, rfl⟩⟩
theorem pf_cons {p : Pattern} {ps : List Pattern} {f g : Str → Bool} (h1 : PPt X p f) (h2 : PFs X ps g) : PFs X (p :: ps) (fOr f g) := by
  refine ⟨fun pins s σ H y u I r => ?_⟩
  refine wpAny_matchFirst_cons (thn (h1.run pins s σ H y u I r) fun o s1 ⟨I1, e⟩ => ?_)
  subst e
  cases hf : f y with
  | true => exact ⟨I1, by simp [fOr, hf]⟩
  | false =>
    refine thn (h2.run pins s1 σ H y u I1 r) fun o s2 ⟨I2, e⟩ => ⟨I2, ?_⟩
    subst e
    simp [fOr, hf]
theorem pp_or {ps : List Pattern} {pos : Pos} {f : Str → Bool} (h : PFs X ps f) (hn : namesOfAll (ps.take 1) = [] := by rfl) : PPt X (.MatchOr ps pos) f := by
  refine ⟨fun pins s σ H y u I r => ?_⟩
  refine wpAny_matchPattern_Or (thn (h.run pins s σ H y u I r) fun o s1 ⟨I1, e⟩ => ?_)
  subst e
  cases hf : f y with
  | true => exact ⟨I1, by simp [hn]⟩
  | false => exact ⟨I1, by simp⟩
def cNil : V → TS := fun _ D σ H => D.nx σ H
def cIf (f : Str → Bool) (t : TS) (r : V → TS) : V → TS := fun x D σ H => ∃ y, x = .str y ∧ if f y = true then t D σ H else r x D σ H
def cAny (t : TS) : V → TS := fun _ D σ H => t D σ H
theorem pcs_nil : PCs X [] cNil := ⟨fun _ _ _ σ H _ _ _ I _ h => wpAny_matchCases_nil ⟨σ, H, I, h⟩⟩
theorem pcs_cons {p : Pattern} {body : List Stmt} {rest : List MatchCase} {f : Str → Bool} {t : TS} {r : V → TS} (h1 : PPt X p f) (h2 : PSs X body t) (h3 : PCs X rest r) : PCs X (⟨p, none, body⟩ :: rest) (cIf f t r) := by
  refine ⟨fun first pins s σ H D x u I rx h => ?_⟩
  obtain ⟨y, rfl, h⟩ := h
  refine wpAny_matchCases_cons (thn (h1.run pins s σ H y u I rx) fun o s1 ⟨I1, e⟩ => ?_)
  subst e
  cases hf : f y with
  | true =>
    rw [hf] at h
    exact wpAny_assignInOrder_none (h2.run pins s1 σ H D I1 h)
  | false =>
    rw [hf] at h
    exact h3.run false pins s1 σ H D _ u I1 rx h
theorem pcs_any {body : List Stmt} {rest : List MatchCase} {pos : Pos} {t : TS} (h2 : PSs X body t) : PCs X (⟨.MatchAs none none pos, none, body⟩ :: rest) (cAny t) := by
  refine ⟨fun first pins s σ H D x u I rx h => ?_⟩
  refine wpAny_matchCases_cons (wpAny_matchPattern_Capture ?_)
  exact wpAny_assignInOrder_none (h2.run pins s σ H D I h)
def tMatch (te : TE) (t : V → TS) : TS := fun D σ H => te σ H fun x H1 => t x D σ H1
theorem ps_match {e : Expr} {cs : List MatchCase} {pos : Pos} {te : TE} {t : V → TS} (he : PE X e te) (h : PCs X cs t) : PS X (.Match e cs pos) (tMatch te t) := by
  refine ⟨fun pins s σ H D I hw => ?_⟩
  refine wpAny_Match (thn (he.run pins s σ H _ I hw) fun u s1 ⟨x, H1, I1, r1, q1⟩ => ?_)
  exact h.run true pins s1 σ H1 D x u I1 r1 q1
end
/-! ### int(n) of an int, of a bool -/
theorem CallR.imp {X : Cx} {f : Value} {r r' : List V → Hp → VK → Prop} (h : CallR X f r) (hi : ∀ xs H Q, r' xs H Q → r xs H Q) : CallR X f r' :=
  fun pins s σ H xs us Q I rv q => h pins s σ H xs us Q I rv (hi _ _ _ q)
theorem call_intI {X : Cx} : CallR X (.type "int") (fun xs H Q => ∃ i, xs = [.int i] ∧ Q (.int i) H) := CallR.imp call_int1 fun _ _ _ q => .inl q
theorem call_intB {X : Cx} : CallR X (.type "int") (fun xs H Q => ∃ k, xs = [.bl k] ∧ Q (.int (if k then 1 else 0)) H) := CallR.imp call_int1 fun _ _ _ q => .inr q
/-! ### loops and comprehensions: the walked thing apart from what is done with it -/
def ForB (J : It) (g : TG) (tb : TS) (D : Ends) (σ : L2.St) (H1 : Hp) : Prop := ∃ W : Nat → Nat → L2.St → Hp → Prop, (∃ m, W 0 m σ H1) ∧ ∀ i m σ H, W i m σ H →
  (J.stop i H ∧ D.nx σ H) ∨ (J.go i H ∧ ∃ N : L2.St → Hp → Prop, (∀ σ' H', N σ' H' → ∃ m', m' < m ∧ W (i + 1) m' σ' H') ∧ ∀ x H', J.yld i H x H' → g x σ H' fun σ2 H2 => tb { D with nx := N, ct := N, bk := D.nx } σ2 H2)
theorem tFor_eq {wi : TI} {g : TG} {tb : TS} {D : Ends} {σ : L2.St} {H : Hp} : tFor wi g tb D σ H = wi σ H fun J H1 => ForB J g tb D σ H1 := rfl
theorem forB {J : It} {n : Nat} {G : Hp → Prop} {Y : Nat → Hp → V → Hp → Prop} (w : Walk J n G Y) {g : TG} {tb : TS} {D : Ends} {σ : L2.St} {H : Hp} (Pv : Nat → L2.St → Hp → Prop) (h0 : Pv 0 σ H) (hG : ∀ i σ H, i ≤ n → Pv i σ H → G H)
    (hs : ∀ i x σ H H', i < n → Pv i σ H → Y i H x H' → g x σ H' fun σ2 H2 => tb { D with nx := Pv (i + 1), ct := Pv (i + 1), bk := D.nx } σ2 H2) (hd : ∀ σ H, Pv n σ H → D.nx σ H) : ForB J g tb D σ H := for_it w Pv h0 hG hs hd
def LcB (J : It) (g : TG) (tt : TT) (te : TE) (vs : List Nat) (σ : L2.St) (Q : VK) (H1 : Hp) : Prop := ∀ D, H1 D = none → ∃ W : Nat → Nat → Hp → Prop, (∃ m, W 0 m (upd H1 D (.lst []))) ∧ ∀ i m H, W i m H →
  (J.stop i H ∧ Q (.ref D) H) ∨ (J.go i H ∧ ∃ Nx : Hp → Prop, (∀ H', Nx H' → ∃ m', m' < m ∧ W (i + 1) m' H') ∧ ∀ x H', J.yld i H x H' → g x (wipe σ vs) H' fun σ2 H2 => wipe σ2 vs = wipe σ vs ∧ tt σ2 H2 fun b H3 =>
    if b = true then te σ2 H3 fun y H4 => ∃ acc, H4 D = some (.lst acc) ∧ acc.length < sizeLine ∧ Nx (upd H4 D (.lst (acc ++ [y]))) else Nx H3)
theorem tLc_eq {wi : TI} {g : TG} {tt : TT} {te : TE} {vs : List Nat} {σ : L2.St} {H : Hp} {Q : VK} : tLc wi g tt te vs σ H Q = wi σ H fun J H1 => LcB J g tt te vs σ Q H1 := rfl
theorem lcB {J : It} {n : Nat} {G : Hp → Prop} {Y : Nat → Hp → V → Hp → Prop} (w : Walk J n G Y) {g : TG} {tt : TT} {te : TE} {vs : List Nat} {σ : L2.St} {H1 : Hp} {Q : VK} (Pv : Addr → Nat → Hp → Prop) (h0 : ∀ D, H1 D = none → Pv D 0 (upd H1 D (.lst []))) (hG : ∀ D i H, i ≤ n → Pv D i H → G H)
    (hs : ∀ D i x H H', H1 D = none → i < n → Pv D i H → Y i H x H' → g x (wipe σ vs) H' fun σ2 H2 => wipe σ2 vs = wipe σ vs ∧ tt σ2 H2 fun b H3 =>
      if b = true then te σ2 H3 fun y H4 => ∃ acc, H4 D = some (.lst acc) ∧ acc.length < sizeLine ∧ Pv D (i + 1) (upd H4 D (.lst (acc ++ [y]))) else Pv D (i + 1) H3) (hd : ∀ D H, H1 D = none → Pv D n H → Q (.ref D) H) : LcB J g tt te vs σ Q H1 :=
  fun D hD => lc_it w (Pv D) (h0 D hD) (hG D) (fun i x H H' hi p y => hs D i x H H' hD hi p y) (fun H p => hd D H hD p)
/-- a list or a tuple is walked; is read by a place -/
def iLT (K : PySem.W.Frag) (tl : TE) : TI := fun σ H R => tl σ H fun x H1 => ∃ a, x = .ref a ∧ ((∃ xs, SqL K H1 a xs) ∧ R (Itl K a) H1 ∨ (∃ xs, SqT K H1 a xs) ∧ R (Itt K a) H1)
theorem ix_lt {X : Cx} : IxR X (fun x y H Q => rIxL X.K x y H Q ∨ rIxT X.K x y H Q) := IxR.or ix_list ix_tup
/-! ### new objects, the heap behind them told by what it keeps -/
def NewA (H : Hp) (o : HO) (Q : VK) : Prop := ∀ p H2, H p = none → Same H H2 → H2 p = some o → Q (.ref p) H2
theorem NewA.at {H : Hp} {o : HO} {Q : VK} (h : NewA H o Q) : ∀ p, H p = none → Q (.ref p) (upd H p o) := fun p hp =>
  h p _ hp (fun b u q => by rw [upd_ne (ne_of_none q hp)]; exact q) upd_same
section
variable {X : Cx}
def tTupA (t : TA) : TE := fun σ H Q => t σ H fun xs H1 => xs.length ≤ sizeLine ∧ NewA H1 (.tup xs) Q
def tLstA (t : TA) : TE := fun σ H Q => t σ H fun xs H1 => xs.length ≤ sizeLine ∧ NewA H1 (.lst xs) Q
theorem pe_tupA {es : List Expr} {t : TA} {x1} {pos : Pos} (h : PA X es t) : PE X (.Tuple es x1 pos) (tTupA t) := by
  refine ⟨fun pins s σ H Q I hq => ?_⟩
  refine wpAny_Tuple_spliced (thn (h.run pos pins s σ H _ I hq) fun us s1 ⟨xs, H1, I1, r, z, q⟩ => ⟨by rw [← r.length]; exact z, ?_⟩)
  have hf : H1 s1.heap.objs.size = none := I1.hok.fresh (Nat.le_refl _)
  refine ⟨.ref s1.heap.objs.size, upd H1 s1.heap.objs.size (.tup xs), I1.laid (t' := s1.toks) (fun b u e => Heap.get?_push_of_some _ e) (Nat.le_refl _) ?_, rfl, q.at _ hf⟩
  exact ⟨z, us, r, ⟨_, Heap.get?_push_size _ rfl, rfl, _, rfl⟩⟩
theorem pe_lstA {es : List Expr} {t : TA} {pos : Pos} (h : PA X es t) : PE X (.List es pos) (tLstA t) := by
  refine ⟨fun pins s σ H Q I hq => ?_⟩
  refine wpAny_List_spliced (thn (h.run pos pins s σ H _ I hq) fun us s1 ⟨xs, H1, I1, r, z, q⟩ => ⟨by rw [← r.length]; exact z, ?_⟩)
  have hf : H1 s1.heap.objs.size = none := I1.hok.fresh (Nat.le_refl _)
  refine ⟨.ref s1.heap.objs.size, upd H1 s1.heap.objs.size (.lst xs), I1.laid (t' := s1.toks) (fun b u e => Heap.get?_push_of_some _ e) (Nat.le_refl _) ?_, rfl, q.at _ hf⟩
  exact ⟨z, us, 0, r, Heap.get?_push_size _ rfl⟩
theorem OpR.imp {f : Value → Value → Sem Value} {r r' : R2} (h : OpR X f r) (hi : ∀ x y H Q, r' x y H Q → r x y H Q) : OpR X f r' := fun pins s σ H x y v u Q I rx ry q => h pins s σ H x y v u Q I rx ry (hi _ _ _ _ q)
theorem SlR.imp {r r' : V → Option Int → Option Int → Hp → VK → Prop} (h : SlR X r) (hi : ∀ x lo hi H Q, r' x lo hi H Q → r x lo hi H Q) : SlR X r' := fun pins s σ H x v vl vu lo hi' sl Q I rx hs pl pu q => h pins s σ H x v vl vu lo hi' sl Q I rx hs pl pu (hi _ _ _ _ _ q)
def rCatL (K : PySem.W.Frag) : R2 := fun x y H Q => ∃ l b xs zs, x = .ref l ∧ y = .ref b ∧ H l = some (.lst xs) ∧ H b = some (.lst zs) ∧ xs.length + zs.length ≤ sizeLine ∧ NewA H (.lst (xs ++ zs)) Q
theorem op_catL (K : PySem.W.Frag) : OpR X (binaryOp .Add) (rCatL K) := OpR.imp op_cat fun x y H Q ⟨l, b, xs, zs, e1, e2, h1, h2, z, q⟩ => ⟨l, b, xs, zs, e1, e2, h1, h2, z, q.at⟩
def rRepL : R2 := fun x y H Q => ∃ l k xs, x = .ref l ∧ y = .int k ∧ H l = some (.lst xs) ∧ -(2 ^ 63) ≤ k ∧ k < 2 ^ 63 ∧ xs.length * k.toNat ≤ sizeLine ∧ NewA H (.lst (List.replicate k.toNat xs).flatten) Q
theorem op_repL : OpR X (binaryOp .Mult) rRepL := OpR.imp op_rep fun x y H Q ⟨l, k, xs, e1, e2, h1, h2, h3, z, q⟩ => ⟨l, k, xs, e1, e2, h1, h2, h3, z, q.at⟩
end
/-! ### rules with the written part told (inside a comprehension) -/
section
variable {X : Cx} (K : PySem.W.Frag) (hK : X.K = K := by rfl)
include hK
theorem kix_list : IxR X (rIxL K) := hK ▸ ix_list
theorem kix_tup : IxR X (rIxT K) := hK ▸ ix_tup
theorem kix_lt : IxR X (fun x y H Q => rIxL K x y H Q ∨ rIxT K x y H Q) := hK ▸ ix_lt
theorem kop_in_seq : OpR X (compareOp .In) (rIn K false) := hK ▸ op_in_seq
theorem kop_notIn_seq : OpR X (compareOp .NotIn) (rIn K true) := hK ▸ op_notIn_seq
theorem kop_eqD (hu : X.A.units + 64 < cLine) : OpR X (compareOp .Eq) (rEqD K) := hK ▸ op_eqD hu
theorem kop_neD (hu : X.A.units + 64 < cLine) : OpR X (compareOp .NotEq) (rNeD K) := hK ▸ op_neD hu
omit hK in
def rCatTA : R2 := fun x y H Q => ∃ a b xs ys, x = .ref a ∧ y = .ref b ∧ SqT K H a xs ∧ SqT K H b ys ∧ xs.length + ys.length ≤ sizeLine ∧ ∀ p H2, Same H H2 → SqT K H2 p (xs ++ ys) → Q (.ref p) H2
theorem kop_catA : OpR X (binaryOp .Add) (rCatTA K) := hK ▸ OpR.imp op_catA fun x y H Q ⟨a, b, xs, ys, e1, e2, h1, h2, z, q⟩ => ⟨a, b, xs, ys, e1, e2, h1, h2, z,
  fun e => q b H (Same.refl H) (by rw [e, List.nil_append]; exact h2), fun _ e => q a H (Same.refl H) (by rw [e, List.append_nil]; exact h1),
  fun _ _ p hp => q p _ (fun c u w => by rw [upd_ne (ne_of_none w hp)]; exact w) (SqT.of upd_same)⟩
omit hK in
def rSlLA : V → Option Int → Option Int → Hp → VK → Prop := fun x lo hi H Q => ∃ a xs, x = .ref a ∧ SqL K H a xs ∧ NewA H (.lst (cutV xs lo hi)) Q
theorem ksl_list : SlR X (rSlLA K) := hK ▸ SlR.imp sl_list fun x lo hi H Q ⟨a, xs, e, h, q⟩ => ⟨a, xs, e, h, q.at⟩
omit hK in
def rSlTA : V → Option Int → Option Int → Hp → VK → Prop := fun x lo hi H Q => ∃ a xs, x = .ref a ∧ SqT K H a xs ∧ ∀ p H2, Same H H2 → SqT K H2 p (cutV xs lo hi) → Q (.ref p) H2
theorem ksl_tupA : SlR X (rSlTA K) := hK ▸ SlR.imp sl_tupA fun x lo hi H Q ⟨a, xs, e, h, q⟩ => ⟨a, xs, e, h,
  fun ⟨c1, c2⟩ => q a H (Same.refl H) (by unfold cutV; rw [c1, c2, List.drop_zero, Nat.sub_zero, List.take_length]; exact h), fun _ p hp => q p _ (fun c u w => by rw [upd_ne (ne_of_none w hp)]; exact w) (SqT.of upd_same)⟩
theorem kcall_len_seq : CallR X (.builtin "len") (fun xs H Q => ∃ p ys, xs = [.ref p] ∧ (SqL K H p ys ∨ SqT K H p ys) ∧ Q (.int ys.length) H) := hK ▸ call_len_seq
theorem kcall_list_of : CallR X (.type "list") (fun xs H Q => ∃ p ys, xs = [.ref p] ∧ (SqL K H p ys ∨ SqT K H p ys) ∧ NewA H (.lst ys) Q) := hK ▸ CallR.imp call_list_of fun xs H Q ⟨p, ys, e, h, q⟩ => ⟨p, ys, e, h, q.at⟩
theorem kcall_tuple_of : CallR X (.type "tuple") (fun xs H Q => ∃ p ys, xs = [.ref p] ∧ (SqL K H p ys ∨ SqT K H p ys) ∧ ∀ t H2, Same H H2 → SqT K H2 t ys → Q (.ref t) H2) := hK ▸ CallR.imp call_tuple_of fun xs H Q ⟨p, ys, e, h, q⟩ => ⟨p, ys, e, h.elim (fun h => .inl ⟨h, fun l hl => q l _ (fun c u w => by rw [upd_ne (ne_of_none w hl)]; exact w) (SqT.of upd_same)⟩) fun h => .inr ⟨h, q p H (Same.refl H) h⟩⟩
theorem kcr_sum (hc : X.calm = true) : CallR X (.builtin "sum") (rSum K) := hK ▸ cr_sum hc
theorem kcr_max (hc : X.calm = true) : CallR X (.builtin "max") (rMax K) := hK ▸ cr_max hc
theorem kcr_min (hc : X.calm = true) : CallR X (.builtin "min") (rMin K) := hK ▸ cr_min hc
theorem kcall_isi : CallR X (.builtin "isinstance") (rIsi K) := hK ▸ call_isi
theorem kcall_isiT : CallR X (.builtin "isinstance") (rIsiT K) := hK ▸ call_isiT
end
section
variable {X : Cx} (K : PySem.W.Frag)
theorem kpg_tup {es : List Expr} {k : Nat} {t : TGs} {n : Nat} {pos : Pos} (hc : X.calm = true) (h : PGs X es t) (hK : X.K = K := by rfl)
    (hn : (assignEach es X.env).length = n := by rfl) (hst : (assignEach es X.env).findIdx? (·.1) = none := by rfl) : PG X (.Tuple es k pos) (gTup K n t) := hK ▸ pg_tup hc h hn hst
theorem kpi_list {tg e : Expr} {te : TE} (h : PE X e te) (hK : X.K = K := by rfl) : PI X tg e (iList K te) := hK ▸ pi_list h
theorem kpi_tup {tg e : Expr} {te : TE} (h : PE X e te) (hK : X.K = K := by rfl) : PI X tg e (iTup K te) := hK ▸ pi_tup h
theorem kpa_star {e : Expr} {es : List Expr} {te : TE} {t : TA} {p : Pos} (he : PE X e te) (hr : PA X es t) (hK : X.K = K := by rfl) (hs : starEach (.Starred e p :: es) X.env = (true, eval e X.env) :: starEach es X.env := by rfl) : PA X (.Starred e p :: es) (StX.tStar K te t) := hK ▸ StX.pa_star he hr hs
end
theorem cxOf_K {CX P w K mg base N q sc f cd A outer s H E} : (cxOf CX P w K mg base N q sc f cd A outer s H E).K = K := rfl
end L2

set_option Elab.async false
set_option linter.all false
set_option maxRecDepth 100000
set_option maxHeartbeats 4000000
namespace L2
open PySem PySem.Spec PyProof.Rows
/-! ### zip of a tuple and a list -/
def ItzM (K : PySem.W.Frag) (a b : Addr) : It where
  go := fun i H => ∃ (us vs : List V) (x y : V), (SqT K H a us ∧ us[i]? = some x) ∧ SqL K H b vs ∧ vs[i]? = some y
  yld := fun i H v G => ∃ (T : Addr) (x y : V), (v = .ref T ∧ H T = none) ∧ G = upd H T (.tup [x, y]) ∧ (∀ us, SqT K H a us → us[i]? = some x) ∧ ∀ vs, SqL K H b vs → vs[i]? = some y
  stop := fun i H => ∃ us vs : List V, SqT K H a us ∧ SqL K H b vs ∧ (us.length = i ∧ i ≤ vs.length ∨ vs.length = i ∧ i ≤ us.length)
theorem sep_of {z p q i1 i2 a b : Addr} (D : ZipApart z p q i1 i2 a b) : ZipSep2 z p q i1 i2 [i1, a] [i2, b] where
  TIz := D.TIz
  TOz := D.TOz
  TITO := D.TITO
  TIi1 := D.TIi1
  TIi2 := D.TIi2
  mem1 := by simp
  mem2 := by simp
  zf1 := by simp; exact ⟨fun e => D.i1z e.symm, fun e => D.l1z e.symm⟩
  zf2 := by simp; exact ⟨fun e => D.i2z e.symm, fun e => D.l2z e.symm⟩
  Tf1 := by simp; exact ⟨fun e => D.TOi1 e, fun e => D.l1TO e.symm⟩
  Tf2 := by simp; exact ⟨fun e => D.TOi2 e, fun e => D.l2TO e.symm⟩
  sep1_2 := by simp; exact ⟨fun e => D.i12 e, fun e => D.l2i1 e.symm⟩
  sep2_1 := by simp; exact ⟨fun e => D.i12 e.symm, fun e => D.l1i2 e.symm⟩
theorem turn_zipM {P : Program} {w : World} {K : PySem.W.Frag} {elts : List Expr} {kk : Nat} {tp : Pos} {a b z p q i1 i2 : Addr} (D : ZipApart z p q i1 i2 a b) :
    Turn P w K (.Tuple elts kk tp) (ItzM K a b) [z, p, q, i1, i2] z (fun i h => (IsZip h z p q .none ∧ IsTupOf2 h p (.ref i1) (.ref i2)) ∧ (∃ x y, IsTupOf2 h q x y) ∧ h.IsTupleIter i1 a i ∧ h.IsListIter i2 b i) where
  mem := List.mem_cons_self ..
  obj := by
    rintro i h ⟨⟨c1, c2⟩, ⟨x, y, c3⟩, ⟨o4, c4, _, d4⟩, o5, c5, _, d5⟩ c hc
    simp only [List.mem_cons, List.not_mem_nil, or_false] at hc
    rcases hc with rfl | rfl | rfl | rfl | rfl
    · exact ⟨_, c1, fun v e => nomatch e⟩
    · exact ⟨_, c2, fun v e => nomatch e⟩
    · exact ⟨_, c3, fun v e => nomatch e⟩
    · exact ⟨_, c4, fun v e => by rw [d4] at e; cases e⟩
    · exact ⟨_, c5, fun v e => by rw [d5] at e; cases e⟩
  keep := by
    rintro i h h' ⟨⟨c1, c2⟩, ⟨x, y, c3⟩, c4, c5⟩ k
    refine ⟨⟨k z (by simp) _ c1, k p (by simp) _ c2⟩, ⟨x, y, k q (by simp) _ c3⟩, c4.at fun o e => k i1 (by simp) o e, c5.at fun o e => k i2 (by simp) o e⟩
  item := by
    rintro X rfl rfl rfl hc i pins s σ H E I hf ⟨⟨c1, c2⟩, ⟨x0, y0, c3⟩, c4, c5⟩ ⟨us, vs, x, y, ⟨hu, hx⟩, hv, hy⟩
    obtain ⟨its, r1, p1, _⟩ := I.tuple hu
    obtain ⟨ivs, r2, p2, _⟩ := I.list hv
    obtain ⟨m1, e1, rx⟩ := r1.get hx
    obtain ⟨m2, e2, ry⟩ := r2.get hy
    have hd0 : X.A.in1.handled = none := I.ok.hd hc
    have g1 := (List.getElem?_eq_some_iff.mp e1).1
    have g2 := (List.getElem?_eq_some_iff.mp e2).1
    refine wpAny_pyNext_zipD2_item (sep_of D) (Draws.tuple hd0 i1 a D.l1i1 its.toArray) (Draws.list hd0 i2 b D.l2i2 ivs.toArray) c1 c2 c3 ⟨c4, p1⟩ ⟨c5, p2.isList⟩ (by simpa using g1) (by simpa using g2) ?_
    intro x1 x2 h' tk q1 q2 z' q' s1 s2 hT hsz hk
    have ex1 : x1 = m1 := by simpa [e1] using q1.symm
    have ex2 : x2 = m2 := by simpa [e2] using q2.symm
    subst ex1 ex2
    have zlt : z < s.heap.objs.size := Heap.lt_size c1
    refine ⟨_, rfl, wpAny_letOwnedTupleGo_zip (s := { s with heap := h', toks := tk }) z' fun h2 z2 sb => ?_⟩
    have hT2 := (sb.2 _ (Nat.ne_of_gt zlt)).trans hT
    have J : Inv X pins σ (upd H s.heap.objs.size (.tup [x, y])) { s with heap := h2, toks := tk } := by
      refine I.turnedNew (ch := [z, p, q, i1, i2]) (fun c o hcm e => ?_) hf (Nat.le_refl _) ⟨by show 2 ≤ sizeLine; decide, [x1, x2], .cons rx (.cons ry .nil), _, hT2, rfl, _, rfl⟩
      simp only [List.mem_cons, List.not_mem_nil, or_false, not_or] at hcm
      exact (sb.2 c hcm.1).trans (hk c o hcm.1 hcm.2.2.1 hcm.2.2.2.1 hcm.2.2.2.2 e)
    refine ⟨.ref s.heap.objs.size, _, J, rfl, ⟨_, x, y, ⟨rfl, I.hok.fresh (Nat.le_refl _)⟩, rfl, fun l hl => ?_, fun l hl => ?_⟩, ⟨⟨z2, ?_⟩, ⟨x1, x2, ?_⟩, ?_, ?_⟩, fun c hcm => ?_⟩
    · rw [I.tuple_inj hl hu]; exact hx
    · rw [I.list_inj hl hv]; exact hy
    · exact (sb.2 _ D.TIz).trans (hk _ _ D.TIz D.TITO D.TIi1 D.TIi2 c2)
    · exact (sb.2 _ D.TOz).trans q'
    · exact s1.1.at fun o e => (sb.2 _ D.i1z).trans e
    · exact s2.1.at fun o e => (sb.2 _ D.i2z).trans e
    · have hlt : c < s.heap.objs.size := by
        simp only [List.mem_cons, List.not_mem_nil, or_false] at hcm
        rcases hcm with rfl | rfl | rfl | rfl | rfl
        · exact zlt
        · exact Heap.lt_size c2
        · exact Heap.lt_size c3
        · obtain ⟨_, e, _⟩ := c4; exact Heap.lt_size e
        · obtain ⟨_, e, _⟩ := c5; exact Heap.lt_size e
      rw [upd_ne (Nat.ne_of_lt hlt)]
      exact (hf c hcm).1
  done := by
    rintro X rfl rfl rfl hc i pins s σ H E I hf ⟨⟨c1, c2⟩, ⟨x0, y0, c3⟩, c4, c5⟩ ⟨us, vs, hu, hv, hend⟩
    obtain ⟨its, r1, p1, _⟩ := I.tuple hu
    obtain ⟨ivs, r2, p2, _⟩ := I.list hv
    have hd0 : X.A.in1.handled = none := I.ok.hd hc
    have l1 := r1.length
    have l2 := r2.length
    refine wpAny_pyNext_zipD2_end (sep_of D) (Draws.tuple hd0 i1 a D.l1i1 its.toArray) (Draws.list hd0 i2 b D.l2i2 ivs.toArray) c1 c2 c3 ⟨c4, p1⟩ ⟨c5, p2.isList⟩ ?_ ?_ ?_ fun h' tk hk => ⟨rfl, ?_⟩
    · simp; omega
    · simp; omega
    · simp; omega
    · refine I.turnedL (ch := [z, p, q, i1, i2]) (fun c o hcm e => ?_) hf
      simp only [List.mem_cons, List.not_mem_nil, or_false, not_or] at hcm
      exact hk c o hcm.1 hcm.2.2.1 hcm.2.2.2.1 hcm.2.2.2.2 e
  self := fun A i s Q E st h => wpAny_pyIter_zip st.1.1 h
def iZipM (K : PySem.W.Frag) (ta : TA) : TI := fun σ H R => ta σ H fun vs H1 => ∃ a b us ws, vs = [.ref a, .ref b] ∧ SqT K H1 a us ∧ SqL K H1 b ws ∧ R (ItzM K a b) H1
theorem pi_zipM {X : Cx} (K : PySem.W.Frag) {e1 e2 : Expr} {ta : TA} {p pos tp : Pos} {elts : List Expr} {kk : Nat} (hg : Gl X "zip") (hm : X.mg "zip" = none) (ha : PA X [e1, e2] ta) (hK : X.K = K := by rfl)
    (hs : starEach [e1, e2] X.env = (false, eval e1 X.env) :: starEach [e2] X.env := by rfl) (hpl : (backTo pos (starEach [e2] X.env)).any (·.1) = false := by rfl) :
    PI X (.Tuple elts kk tp) (.Call (.Name "zip" p) [e1, e2] [] pos) (iZipM K ta) := by
  subst hK
  refine ⟨fun pins s σ H R I h => Call_ (ld_blt I hg hm PyProof.Rows.boot_zip (PyProof.Rows.callWith_type1 (thn (ha.run pos pins s σ H _ I h) fun ms s1 ⟨vs, H1, I1, r1, q1⟩ => ?_) hs hpl))⟩
  obtain ⟨a, b, us, ws, rfl, hu, hw, q1⟩ := q1
  obtain ⟨m1, rest, rfl, ra, rr⟩ : ∃ m rest, ms = m :: rest ∧ RelV (.ref a) m ∧ Vals [.ref b] rest := by
    cases r1 with
    | cons r rr => exact ⟨_, _, rfl, r, rr⟩
  obtain ⟨m2, rfl, rb⟩ : ∃ m, rest = [m] ∧ RelV (.ref b) m := by
    cases rr with
    | cons r rr => cases rr; exact ⟨_, rfl, r⟩
  cases ra
  cases rb
  obtain ⟨its, rv1, p1, _⟩ := I1.tuple hu
  obtain ⟨ivs, rv2, p2, _⟩ := I1.list hw
  obtain ⟨o1, ho1, _⟩ := id p1
  refine zip_begins2 (begins_tuple a its.toArray) (begins_list b ivs.toArray) p1 p2.isList fun h' hz hp hq h1 h2 hsz hk => wpAny_pyIter_zip hz ?_
  refine ⟨s1.heap.objs.size + 4, [s1.heap.objs.size + 4, s1.heap.objs.size + 2, s1.heap.objs.size + 3, s1.heap.objs.size, s1.heap.objs.size + 1], _, _, H1, rfl, I1.kept (t' := s1.toks) hk, turn_zipM (PySem.W.ktu_apart s1.heap.objs.size a b (Heap.lt_size ho1) p2.lt), ⟨⟨hz, hp⟩, ⟨_, _, hq⟩, ⟨_, h1, rfl, rfl⟩, ⟨_, h2, rfl, rfl⟩⟩, fun c hc => ?_, q1⟩
  have hle : s1.heap.objs.size ≤ c := by
    simp only [List.mem_cons, List.not_mem_nil, or_false] at hc
    rcases hc with e | e | e | e | e <;> rw [e] <;> first | exact Nat.le_refl _ | exact Nat.le_add_right _ _
  exact I1.fpOk hle (I1.hok.fresh hle)
theorem walk_zipM {K : PySem.W.Frag} {a b : Addr} {us ws : List V} {n : Nat} (h1 : us.length = n) (h2 : ws.length = n) : Walk (ItzM K a b) n (fun H => SqT K H a us ∧ SqL K H b ws) (YPair (fun i => us[i]?) (fun i => ws[i]?)) where
  goes := fun i H hi ⟨hu, hw⟩ => ⟨us, ws, us[i], ws[i], ⟨hu, by simp⟩, hw, by simp⟩
  stops := fun H ⟨hu, hw⟩ => ⟨us, ws, hu, hw, .inl ⟨h1, by omega⟩⟩
  yields := fun i H x H' hi ⟨hu, hw⟩ ⟨T, x', y', ⟨e1, e2⟩, e3, e4, e5⟩ => ⟨T, x', y', e1, e2, e3, e4 _ hu, e5 _ hw⟩
end L2

set_option Elab.async false
set_option linter.all false
set_option maxRecDepth 100000
set_option maxHeartbeats 4000000
namespace L2
open PySem PySem.Spec PyProof.Rows

/-! ### heaps that grow; heaps that change at a few places -/
theorem same_new {H : Hp} {p : Addr} (h : H p = none) (o : HO) : Same H (upd H p o) := fun b u q => by rw [upd_ne (ne_of_none q h)]; exact q
theorem same_newT {H H1 : Hp} {p : Addr} (g : Same H H1) (h : H1 p = none) (o : HO) : Same H (upd H1 p o) := g.trans (same_new h o)
/-- an object that H does not know may change -/
theorem same_mut {H H1 : Hp} {p : Addr} (g : Same H H1) (h : H p = none) (o : HO) : Same H (upd H1 p o) := fun b u q => by rw [upd_ne (ne_of_none q h)]; exact g b u q
/-- all but the objects of M stay -/
def Keep (M : List Addr) (H H' : Hp) : Prop := ∀ b o, b ∉ M → H b = some o → H' b = some o
theorem Keep.refl (M : List Addr) (H : Hp) : Keep M H H := fun _ _ _ h => h
theorem Keep.trans {M : List Addr} {H H1 H2 : Hp} (a : Keep M H H1) (b : Keep M H1 H2) : Keep M H H2 := fun c o hc h => b c o hc (a c o hc h)
theorem Same.keep {M : List Addr} {H H' : Hp} (s : Same H H') : Keep M H H' := fun b o _ h => s b o h
theorem Keep.mono {M N : List Addr} {H H' : Hp} (k : Keep M H H') (h : ∀ b ∈ M, b ∈ N) : Keep N H H' := fun b o hb e => k b o (fun z => hb (h b z)) e
theorem keep_upd {M : List Addr} {H H1 : Hp} {p : Addr} (k : Keep M H H1) (h : p ∈ M) (o : HO) : Keep M H (upd H1 p o) := fun b u hb e => by
  have : b ≠ p := fun z => hb (z ▸ h)
  rw [upd_ne this]; exact k b u hb e
theorem keep_new {M : List Addr} {H H1 : Hp} {p : Addr} (k : Keep M H H1) (h : H p = none) (o : HO) : Keep M H (upd H1 p o) := fun b u hb e => by
  rw [upd_ne (ne_of_none e h)]; exact k b u hb e
theorem Keep.none {M : List Addr} {H H1 : Hp} {p : Addr} (k : Keep M H H1) (hp : p ∉ M) (h : H1 p = none) : H p = none := by
  cases q : H p with
  | none => rfl
  | some o => rw [k p o hp q] at h; cases h
/-- tuples stay -/
def TSame (H H' : Hp) : Prop := ∀ b xs, Rd H b (.tup xs) → Rd H' b (.tup xs)
theorem TSame.refl (H : Hp) : TSame H H := fun _ _ h => h
theorem TSame.trans {H H1 H2 : Hp} (a : TSame H H1) (b : TSame H1 H2) : TSame H H2 := fun c o h => b c o (a c o h)
theorem Same.ts {H H' : Hp} (s : Same H H') : TSame H H' := fun b xs h => h.elim (fun h => .inl (s _ _ h)) fun ⟨o, h⟩ => .inr ⟨o, s _ _ h⟩
theorem Keep.ts {M : List Addr} {H H' : Hp} (k : Keep M H H') (h : ∀ b ∈ M, ∃ xs, H b = some (.lst xs)) : TSame H H' := by
  intro b xs hb
  by_cases hm : b ∈ M
  · obtain ⟨ys, e⟩ := h b hm
    rcases hb with hb | ⟨o, hb⟩ <;> rw [e] at hb <;> cases hb
  · exact hb.elim (fun h => .inl (k _ _ hm h)) fun ⟨o, h⟩ => .inr ⟨o, k _ _ hm h⟩
theorem ts_lst {H H1 : Hp} {p : Addr} {xs : List V} (g : TSame H H1) (h : H1 p = some (.lst xs)) (o : HO) : TSame H (upd H1 p o) := fun b zs hb => by
  have h1 := g b zs hb
  have : b ≠ p := fun z => by subst z; rcases h1 with h1 | ⟨o, h1⟩ <;> rw [h] at h1 <;> cases h1
  rcases h1 with h1 | ⟨o', h1⟩
  · exact .inl (by rw [upd_ne this]; exact h1)
  · exact .inr ⟨o', by rw [upd_ne this]; exact h1⟩
theorem ts_new {H H1 : Hp} {p : Addr} (g : TSame H H1) (h : H1 p = none) (o : HO) : TSame H (upd H1 p o) := g.trans (Same.ts (same_new h o))
theorem SqT.ts {K : PySem.W.Frag} {H H' : Hp} {a : Addr} {xs : List V} (e : TSame H H') (h : SqT K H a xs) : SqT K H' a xs := h.elim (fun h => .inl (e _ _ h)) .inr
theorem SqT.same {K : PySem.W.Frag} {H H' : Hp} {a : Addr} {xs : List V} (e : Same H H') (h : SqT K H a xs) : SqT K H' a xs := SqT.ts (Same.ts e) h

/-! ### data -/
mutual
/-- no list in it -/
def noL : PyData → Bool
  | .list _ => false
  | .tuple xs => noLs xs
  | .dict _ => false
  | _ => true
def noLs : List PyData → Bool
  | [] => true
  | d :: ds => noL d && noLs ds
end
section
variable {K : PySem.W.Frag} {H H' : Hp}
mutual
theorem Dp.same (e : Same H H') : ∀ {v : V} {d : PyData}, Dp K H v d → Dp K H' v d
  | _, _, .non => .non
  | _, _, .bl b => .bl b
  | _, _, .int i => .int i
  | _, _, .str x => .str x
  | _, _, .lst h hs => .lst (e.seq h) (DpAll.same e hs)
  | _, _, .tup h hs => .tup (SqT.same e h) (DpAll.same e hs)
theorem DpAll.same (e : Same H H') : ∀ {vs : List V} {ds : List PyData}, DpAll K H vs ds → DpAll K H' vs ds
  | _, _, .nil => .nil
  | _, _, .cons h hs => .cons (Dp.same e h) (DpAll.same e hs)
end
mutual
theorem Dp.ts (e : TSame H H') : ∀ {d : PyData} {v : V}, noL d = true → Dp K H v d → Dp K H' v d
  | _, _, _, .non => .non
  | _, _, _, .bl b => .bl b
  | _, _, _, .int i => .int i
  | _, _, _, .str x => .str x
  | .list _, _, n, .lst h hs => by simp [noL] at n
  | .tuple ds, _, n, .tup h hs => .tup (SqT.ts e h) (DpAll.ts e (by simpa [noL] using n) hs)
theorem DpAll.ts (e : TSame H H') : ∀ {ds : List PyData} {vs : List V}, noLs ds = true → DpAll K H vs ds → DpAll K H' vs ds
  | [], _, _, .nil => .nil
  | d :: ds, _, n, .cons h hs => by
    have n' : noL d = true ∧ noLs ds = true := by simpa [noLs] using n
    exact .cons (Dp.ts e n'.1 h) (DpAll.ts e n'.2 hs)
end
theorem Dp.tupI {v : V} {ds : List PyData} (h : Dp K H v (.tuple ds)) : ∃ a xs, v = .ref a ∧ SqT K H a xs ∧ DpAll K H xs ds := by
  cases h with
  | tup hs ha => exact ⟨_, _, rfl, hs, ha⟩
theorem Dp.lstI {v : V} {ds : List PyData} (h : Dp K H v (.list ds)) : ∃ a xs, v = .ref a ∧ SqL K H a xs ∧ DpAll K H xs ds := by
  cases h with
  | lst hs ha => exact ⟨_, _, rfl, hs, ha⟩
theorem Dp.strI {v : V} {x : Str} (h : Dp K H v (.str x)) : v = .str x := by cases h; rfl
theorem Dp.intI {v : V} {i : Int} (h : Dp K H v (.int i)) : v = .int i := by cases h; rfl
theorem Dp.nonI {v : V} (h : Dp K H v .none) : v = .non := by cases h; rfl
theorem DpAll.nilI {vs : List V} (h : DpAll K H vs []) : vs = [] := by cases h; rfl
theorem DpAll.consI {vs : List V} {d : PyData} {ds : List PyData} (h : DpAll K H vs (d :: ds)) : ∃ v r, vs = v :: r ∧ Dp K H v d ∧ DpAll K H r ds := by
  cases h with
  | cons h1 h2 => exact ⟨_, _, rfl, h1, h2⟩
theorem DpAll.len : ∀ {vs : List V} {ds : List PyData}, DpAll K H vs ds → vs.length = ds.length
  | _, _, .nil => rfl
  | _, _, .cons _ hs => by simp [DpAll.len hs]
theorem DpAll.get : ∀ {vs : List V} {ds : List PyData} {i : Nat} {v : V}, DpAll K H vs ds → vs[i]? = some v → ∃ d, ds[i]? = some d ∧ Dp K H v d
  | _, _, _, _, .nil, e => by simp at e
  | _, _, 0, _, .cons h _, e => by simp at e; subst e; exact ⟨_, rfl, h⟩
  | _, _, i + 1, v, .cons _ hs, e => by
    obtain ⟨d, h1, h2⟩ := DpAll.get (i := i) (v := v) hs (by simpa using e)
    exact ⟨d, by simpa using h1, h2⟩
theorem DpAll.getD : ∀ {vs : List V} {ds : List PyData} {i : Nat} {d : PyData}, DpAll K H vs ds → ds[i]? = some d → ∃ v, vs[i]? = some v ∧ Dp K H v d
  | _, _, _, _, .nil, e => by simp at e
  | _, _, 0, _, .cons h _, e => by simp at e; subst e; exact ⟨_, rfl, h⟩
  | _, _, i + 1, d, .cons _ hs, e => by
    obtain ⟨v, h1, h2⟩ := DpAll.getD (i := i) (d := d) hs (by simpa using e)
    exact ⟨v, by simpa using h1, h2⟩
theorem DpAll.append : ∀ {vs ws : List V} {ds es : List PyData}, DpAll K H vs ds → DpAll K H ws es → DpAll K H (vs ++ ws) (ds ++ es)
  | _, _, _, _, .nil, s => s
  | _, _, _, _, .cons h hs, s => .cons h (DpAll.append hs s)
theorem DpAll.appI : ∀ {ds es : List PyData} {vs : List V}, DpAll K H vs (ds ++ es) → ∃ us ws, vs = us ++ ws ∧ DpAll K H us ds ∧ DpAll K H ws es
  | [], _, vs, h => ⟨[], vs, rfl, .nil, h⟩
  | d :: ds, es, _, .cons h hs => by
    obtain ⟨us, ws, rfl, h1, h2⟩ := DpAll.appI (ds := ds) (es := es) hs
    exact ⟨_ :: us, ws, rfl, .cons h h1, h2⟩
theorem DpAll.snoc {vs : List V} {ds : List PyData} {v : V} {d : PyData} (h : DpAll K H vs ds) (hv : Dp K H v d) : DpAll K H (vs ++ [v]) (ds ++ [d]) := h.append (.cons hv .nil)
theorem DpAll.set : ∀ {vs : List V} {ds : List PyData} {v : V} {d : PyData} (i : Nat), DpAll K H vs ds → Dp K H v d → DpAll K H (vs.set i v) (ds.set i d)
  | _, _, _, _, _, .nil, _ => .nil
  | _, _, _, _, 0, .cons _ hs, hv => .cons hv hs
  | _, _, _, _, i + 1, .cons h hs, hv => .cons h (DpAll.set i hs hv)
theorem DpAll.take : ∀ {vs : List V} {ds : List PyData} (n : Nat), DpAll K H vs ds → DpAll K H (vs.take n) (ds.take n)
  | _, _, 0, _ => .nil
  | _, _, _ + 1, .nil => .nil
  | _, _, n + 1, .cons h hs => .cons h (DpAll.take n hs)
theorem DpAll.drop : ∀ {vs : List V} {ds : List PyData} (n : Nat), DpAll K H vs ds → DpAll K H (vs.drop n) (ds.drop n)
  | _, _, 0, h => h
  | _, _, _ + 1, .nil => .nil
  | _, _, n + 1, .cons _ hs => DpAll.drop n hs
theorem Dp.ofT {a : Addr} {xs : List V} {ds : List PyData} (h : H a = some (.tup xs)) (hs : DpAll K H xs ds) : Dp K H (.ref a) (.tuple ds) := .tup (SqT.of h) hs
theorem Dp.ofL {a : Addr} {xs : List V} {ds : List PyData} (h : H a = some (.lst xs)) (hs : DpAll K H xs ds) : Dp K H (.ref a) (.list ds) := .lst (SqL.of h) hs
/-- a new tuple -/
theorem Dp.newT {p : Addr} {xs : List V} {ds : List PyData} (hp : H p = none) (hs : DpAll K H xs ds) : Dp K (upd H p (.tup xs)) (.ref p) (.tuple ds) := .ofT upd_same (DpAll.same (same_new hp _) hs)
theorem Dp.newL {p : Addr} {xs : List V} {ds : List PyData} (hp : H p = none) (hs : DpAll K H xs ds) : Dp K (upd H p (.lst xs)) (.ref p) (.list ds) := .ofL upd_same (DpAll.same (same_new hp _) hs)
theorem DpAll.str : ∀ {xs : List Str}, DpAll K H (xs.map V.str) (xs.map PyData.str)
  | [] => .nil
  | x :: xs => .cons (.str x) DpAll.str
theorem DpAll.int : ∀ {xs : List Int}, DpAll K H (xs.map V.int) (xs.map PyData.int)
  | [] => .nil
  | x :: xs => .cons (.int x) DpAll.int
end
/-! ### isinstance -/
theorem isi_at {K : PySem.W.Frag} {H : Hp} {x : V} {a c : String} {b : Bool} {Q : VK} (ht : TyX K H x (.type a)) (hk : kitB a c = some b) (q : Q (.bl b) H) : rIsi K [x, .ty c] H Q := ⟨x, .ty c, .type a, .type c, b, rfl, .ty c, ht, kit_ty hk, q⟩
theorem tyT {K : PySem.W.Frag} {H : Hp} {a : Addr} {xs : List V} (h : SqT K H a xs) : TyX K H (.ref a) (.type "tuple") := by
  rcases h with (h | ⟨o, h⟩) | ⟨o, _, _, h, hc, _⟩
  · exact .base (.tup h)
  · exact .fTuple h
  · exact .kTuple h hc
theorem tyL {K : PySem.W.Frag} {H : Hp} {a : Addr} {xs : List V} (h : SqL K H a xs) : TyX K H (.ref a) (.type "list") := by
  rcases h with (h | ⟨o, h⟩) | ⟨o, _, _, h, hc, _⟩
  · exact .base (.lst h)
  · exact .base (.frz h)
  · exact .kList h hc
theorem iteP {c A B : Prop} [Decidable c] (hc : c) (h : A) : if c then A else B := by rw [if_pos hc]; exact h
theorem iteN {c A B : Prop} [Decidable c] (hc : ¬ c) (h : B) : if c then A else B := by rw [if_neg hc]; exact h
theorem iteS {k z : Str} {A B : Prop} (h1 : k = z → A) (h2 : ¬ k = z → B) : if V.str k = V.str z then A else B := by
  by_cases h : k = z
  · rw [if_pos (by rw [h])]; exact h1 h
  · rw [if_neg (fun e => h (V.str.inj e))]; exact h2 h
theorem strne {k z : Str} (h : ¬ k = z) : ¬ V.str k = V.str z := fun e => h (V.str.inj e)
theorem inV_str {k : Str} : ∀ {zs : List Str}, (inV (.str k) (zs.map V.str) = true) ↔ k ∈ zs
  | [] => by simp [inV]
  | z :: zs => by
    have ih := inV_str (k := k) (zs := zs)
    unfold inV at ih ⊢
    simp only [List.map_cons, List.any_cons, Bool.or_eq_true, List.mem_cons, ih]
    have : (eqV (V.str z) (V.str k) = true) ↔ k = z := by
      show ((z == k) = true) ↔ _
      rw [beq_iff_eq]
      exact ⟨Eq.symm, Eq.symm⟩
    rw [this]
theorem szl {n : Nat} (h : n ≤ 1000000) : n ≤ sizeLine := Nat.le_trans h (by decide)
theorem szlt {n : Nat} (h : n < 1000000) : n < sizeLine := Nat.lt_of_lt_of_le h (by decide)
theorem at_last {v : V} {xs : List V} : atI (xs ++ [v]) (-1) = some v := by
  have e : ixN (xs ++ [v]).length (-1) = some xs.length := by
    simp [ixN]
    omega
  unfold atI
  rw [e]
  simp
theorem cut_last {v : V} {xs : List V} : cutV (xs ++ [v]) none (some (-1)) = xs := by
  have e1 : HT.sIx (xs ++ [v]).length 0 none = 0 := rfl
  have e2 : HT.sIx (xs ++ [v]).length (xs ++ [v]).length (some (-1)) = xs.length := by
    simp [HT.sIx]
    omega
  unfold cutV
  rw [e1, e2]
  simp
theorem cut_to {xs : List V} {i : Int} (h : 0 ≤ i) : cutV xs none (some i) = xs.take i.toNat := by
  have e1 : HT.sIx xs.length 0 none = 0 := rfl
  have e2 : HT.sIx xs.length xs.length (some i) = min i.toNat xs.length := by
    have : ¬ i < 0 := by omega
    simp [HT.sIx, this]
  unfold cutV
  rw [e1, e2, List.drop_zero, Nat.sub_zero]
  rcases Nat.le_total i.toNat xs.length with h1 | h1
  · rw [Nat.min_eq_left h1]
  · rw [Nat.min_eq_right h1, List.take_length, List.take_of_length_le h1]
theorem cut_from1 {xs : List V} : cutV xs (some 1) none = xs.drop 1 := by
  have e2 : HT.sIx xs.length xs.length none = xs.length := rfl
  unfold cutV
  rw [e2]
  cases xs with
  | nil => rfl
  | cons x xs =>
    have e1 : HT.sIx (x :: xs).length 0 (some 1) = 1 := by simp [HT.sIx]
    rw [e1]
    simp
theorem at0 {v : V} {xs : List V} : atI (v :: xs) 0 = some v := at_of (j := 0) rfl rfl
theorem at1 {v w : V} {xs : List V} : atI (v :: w :: xs) 1 = some w := at_of (j := 1) rfl rfl
theorem at2 {v w u : V} {xs : List V} : atI (v :: w :: u :: xs) 2 = some u := at_of (j := 2) rfl rfl
end L2

set_option Elab.async false
set_option linter.all false
set_option maxRecDepth 100000
set_option maxHeartbeats 4000000
/-! own errors: class E(LimitError): def __init__(self, p): super().__init__(txt); self.f = p -/
namespace PySem
namespace OwnX
open PySem.W PySem.Calls PyProof.Rows PySem.HandSPX
def xA (pn : Str) (p1 p2 : Pos) : Arguments := { posonlyargs := [], args := [{ arg := "self", annotation := none, pos := p1 }, { arg := pn, annotation := none, pos := p2 }], vararg := none, kwonlyargs := [], kw_defaults := [], kwarg := none, defaults := [] }
def xB (txt f pn : Str) (k : Nat) (a b c d e q a1 b1 c1 d1 : Pos) : List Stmt :=
  [.Expr (.Call (.Attribute (.Call (.Name "super" a) [] [] b) "__init__" c) [.Constant (.str txt) k d] [] e) q, .Assign [.Attribute (.Name "self" a1) f b1] (.Name pn c1) d1]
def xS (pn : Str) : Scope := { kind := .function, names := [(PySem.Str.ofString "self", .local), (pn, .local), (PySem.Str.ofString "__class__", .free), (PySem.Str.ofString "super", .globalImplicit)], isGenerator := false, isCoroutine := false, more := [] }
/-- what a parameter's name must allow (all by rfl, once it is known) -/
structure Word (pn : Str) : Prop where
  bnd : ∀ (q : Str) (p1 p2 : Pos) (bd : List Stmt) (doc pm : Value) (an : Option Addr) (cdv ct : Value) (cc : Addr) (u v : Value), bindArgs (ksFn "__init__" q (xA pn p1 p2) bd (xS pn) .none .none doc pm an cdv ct cc) ⟨[u, v], []⟩ = pure [((("self" : Str)), u), (pn, v)]
  kS : (xS pn).names.lookup ("super" : Str) = some .globalImplicit
  kC : (xS pn).names.lookup ("__class__" : Str) = some .free
  kF : (xS pn).names.lookup ("self" : Str) = some .local
  kP : (xS pn).names.lookup pn = some .local
  dbg : (pn == ("__debug__" : Str)) = false
  ne : pn ≠ ("self" : Str)
/-- what the written part says of an error class C whose __init__ (at fI) is written in class D -/
structure Txt (P : Program) (K : Frag) (C D fI : Addr) (q f pn : Str) : Prop where
  cls : ∃ nm q' N bs bm sn sub ab col dd k0 k1 k2 k3 k5, K.lookup C = some (excClassObj nm q' C N bs bm true sn sub ab col dd k0 k1 k2 k3 k5 "ValueError.__new__") ∧ refsVE bm = true
  fn : ∃ (oc : Value) (od : Option Addr) (doc pm : Value) (an : Option Addr) (cda cc : Addr) (ct : Value) (osl : Array (Option Value)) (txt : Str) (k : Nat) (p1 p2 a b c d e q' a1 b1 c1 d1 : Pos),
    (c.endLine == e.line) = true ∧ K.lookup fI = some ⟨oc, od, .func (ksFn "__init__" q (xA pn p1 p2) (xB txt f pn k a b c d e q' a1 b1 c1 d1) (xS pn) .none .none doc pm an (.ref cda) ct cc), osl⟩ ∧ codeIn K (.ref cda) q = true ∧
    (∃ ccl cdd vs ccs file tf, K.lookup cda = some ⟨ccl, cdd, .fields vs, ccs⟩ ∧ vs[2]? = some (.str file tf) ∧ ((P.main.file : Str) == file) = true) ∧
    (∃ cl cld csl, K.lookup cc = some ⟨cl, cld, .cell (some (.ref D)), csl⟩)
  ini : excInitIn K C veTail "ValueError.__new__" = true
  sa : findIn K (.ref C) "__setattr__" = some (some (.builtin "object.__setattr__"))
  noN : findIn K (.ref C) f = some none
  hD : (clsIn K D).isSome = true
  subD : mroIn K C (.ref D) = some true
  subV : subIn K (.ref C) (.type "ValueError") = some true
  opq : nsIn K cStatics "thirdparty.any" = some none
  sup : ks_superIn K C D "__init__" = some (some (.builtin "ValueError.__init__"))
  top : (P.main.scope.names.lookup ("super" : Str)).isSome = false
  wd : Word pn
/-- what an __init__ leaves of a fresh exception at x -/
structure InitEnd (h h' : Heap) (x C dx t1 : Addr) (f : Str) (v : Value) : Prop where
  keep : ∀ b o, b ≠ x → h.get? b = some o → h'.get? b = some o
  obj : h'.get? x = some { cls := .ref C, dict := some dx, data := .fields #[.ref t1, .none, .none, .none, .bool false, .none] }
  dbig : h.objs.size ≤ dx
  dne : dx ≠ x
  ns : h'.Ns1 dx (fun y => if y = f then some v else none)
theorem one_small (v : Value) : [v].length ≤ sizeLine := by
  rw [sizeLine_eq]
  exact (by decide : 1 ≤ 16777216)
section
variable {P : Program} {w : World} {A : Around} {E : Value → Shared → Prop} {R : Result → Shared → Prop} {s : Shared} {K : Frag} {C D fI : Addr} {q f pn : Str}
theorem xinit (T : Txt P K C D fI q f pn) {x t0 : Addr} {v : Value} {mg mb : Str → Option Value} (X : K.In s.heap) (hg : s.heap.Ns mainGlobals mg) (hm : mg "super" = none) (hb : s.heap.Ns builtinsNs mb) (hmb : mb "super" = bootBuiltins "super")
    (hlim : s.heap.NoLimit) (hx : s.heap.get? x = some (excO C t0)) (hnx : K.lookup x = none) (hroom : A.depth < recursionLimit)
    (hq : ∀ h' tk dx t1, InitEnd s.heap h' x C dx t1 f v → R (.ok (.ret .none)) { s with heap := h', toks := tk }) :
    codeAny (model P w) A (.call (.ref fI) ⟨[.ref x, v], []⟩) R s := by
  obtain ⟨oc, od, doc, pm, an, cda, cc, ct, osl, txt, k, p1, p2, a, b, c, d, e, q', a1, b1, c1, d1, hpos, ho, hcd, ⟨ccl, cdd, vs, ccs, file, tf, hcode, hvs, hfile⟩, cl, cld, csl, hcell⟩ := T.fn
  obtain ⟨nm, qq, N, bs, bm, sn, sub, ab, col, dd, k0, k1, k2, k3, k5, hC, hbm⟩ := T.cls
  have hcl : clsIn K C = some { name := nm, bases := bs, mro := .ref C :: bm, ns := N, qualname := qq, hasDict := true, slotNames := sn, subclasses := sub, abstract := ab, collection := col, hasDel := false } := by unfold clsIn; rw [hC] <;> rfl
  obtain ⟨cdD, hD⟩ := Option.isSome_iff_exists.mp T.hD
  have X₁ : ∀ h' : Heap, (∀ b o, s.heap.get? b = some o → h'.get? b = some o) → K.In h' := fun h' k => X.keeps k
  refine ks_codeAny_call_defAt (fd := ksFn "__init__" q (xA pn p1 p2) (xB txt f pn k a b c d e q' a1 b1 c1 d1) (xS pn) .none .none doc pm an (.ref cda) ct cc) (binds := [(("self" : Str), .ref x), (pn, v)]) hroom (X _ _ ho) rfl hlim (codeRec_of X hcd) rfl
    (BindsTo.of_eq (T.wd.bnd _ _ _ _ _ _ _ _ _ _ _ _)) ?_ ?_ (fun h₁ hns k₁ => ?_)
  · intro z hz
    simp only [xS, List.mem_cons, List.not_mem_nil, or_false] at hz
    rcases hz with rfl | rfl | rfl | rfl <;> exact fun z => by cases z
  · intro z hz
    simp only [List.mem_cons, List.not_mem_nil, or_false] at hz
    rcases hz with rfl | rfl
    · exact T.wd.kF
    · exact T.wd.kP
  have hx₁ := k₁ _ _ hx
  have X1 := X₁ h₁ k₁
  obtain ⟨oD, hD1, hD2⟩ : ∃ oD, h₁.get? D = some oD ∧ oD.data = .cls cdD := by
    unfold clsIn at hD
    split at hD
    · rename_i c d cd' sl hoD
      cases hD
      exact ⟨_, X1 _ _ hoD, rfl⟩
    · cases hD
  have lS : (fun y => ([("self", .ref x), (pn, v)] : List (Str × Value)).reverse.lookup y) "self" = some (.ref x) := by
    show List.lookup (Str.ofString "self") [(pn, v), (Str.ofString "self", .ref x)] = _
    simp only [List.lookup]
    rw [show (Str.ofString "self" == pn) = false from by simpa using Ne.symm T.wd.ne]
    simp
  have lP : (fun y => ([("self", .ref x), (pn, v)] : List (Str × Value)).reverse.lookup y) pn = some v := by
    show List.lookup pn [(pn, v), (Str.ofString "self", .ref x)] = _
    simp [List.lookup]
  have he : ∀ env : Env, eval (.Call (.Attribute (.Call (.Name "super" a) [] [] b) "__init__" c) [.Constant (.str txt) k d] [] e) env = (do
      let ov ← attributeBase (.Call (.Name "super" a) [] [] b) "__init__" env (eval (.Call (.Name "super" a) [] [] b) env)
      standAt c.atName
      let (f, first) ← holding [ov] (getMethod ov "__init__" (do return (← importBound (.Call (.Name "super" a) [] [] b) env).getD true))
      callWith e f first (backTo e (starEach [.Constant (.str txt) k d] env)) []) := fun env => by
    rw [eval]
    unfold methodCall calleeOf methodCallPos
    rw [hpos]
    rfl
  refine ks_wpAt_execs_cons (ks_wpAt_Expr_any (ks_wpAt_MethodCall ?_ (he _)))
  refine ks_wpAt_super_base (env := ksEnv q (xS pn) s.heap.objs.size fI (.ref cda) cc) T.wd.kS T.wd.kC (by decide) rfl (X1 _ _ ho) rfl rfl rfl (X1 _ _ hcode) rfl hvs hfile T.top ?_
  refine ks_loadName_global rfl T.wd.kS (loadGlobal_builtin (env := ksEnv q (xS pn) s.heap.objs.size fI (.ref cda) cc) (hg.keeps k₁) hm (hb.keeps k₁) (hmb.trans (by first | boot_by_name | rfl | kernel_rfl)) ⟨rfl, ?_⟩)
  refine wpAny_loadName_free rfl T.wd.kC rfl ⟨_, X1 _ _ hcell, rfl⟩ ?_
  refine wpAny_loadName_local rfl T.wd.kF hns lS ?_
  refine ks_wpAny_isType_cls hD1 hD2 ⟨rfl, ?_⟩
  have xd : ∀ cc, (excO C t0).data ≠ .cls cc := fun cc z => by cases z
  refine ks_wpAny_call_super hD1 hD2 hx₁ rfl xd (looks_mroIn X1 T.subD) (fun h₂ e₂ k₂ => ?_)
  have X2 : K.In h₂ := X1.keeps k₂
  have hx₂ := k₂ _ _ hx₁
  have hal : alongIn K "__init__" (((.ref C :: bm : List Value).dropWhile (· != .ref D)).drop 1) = some (some (.builtin "ValueError.__init__")) := by
    have z := T.sup
    unfold ks_superIn at z
    rw [hcl] at z
    exact z
  have I2 : InstAt h₂ x (excO C t0) C none := ⟨hx₂, rfl, rfl, trivial⟩
  have hI : Looks (model P w) h₂ (isInstance (.ref x) (.type "ValueError")) true := I2.type.andThen (looks_subIn X2 T.subV)
  refine kxs_getMethod kxs_ValueError e₂ (looks_opaque X2 T.opq) (l₀ := .ref C :: bm) ?_ rfl X2 hal hI (ks_ne X2 I2 hcl) (by decide) ?_
  · exact fun A Q E s k q => wpAny_bind ((looks_clsIn X2 hcl) A _ E s k (wpAny_pure q))
  refine kxs_callWith (i := "ValueError.__init__") (x := x) rfl ?_
  refine evalArgs_plain (spliced_cons (Constant_str (k := k) (pos := d) (spliced_nil ?_)))
  have k₃ : ∀ b o, h₂.get? b = some o → (h₂.push (kxs_mw "ValueError.__init__" x)).get? b = some o := fun b o z => Heap.get?_push_of_some _ z
  refine ⟨Heap.get?_push_at rfl rfl, ?_⟩
  have kk : ∀ b o, s.heap.get? b = some o → (h₂.push (kxs_mw "ValueError.__init__" x)).get? b = some o := fun b o z => k₃ _ _ (k₂ _ _ (k₁ _ _ z))
  have nL : s.heap.objs.size ≠ x := Nat.ne_of_gt (Heap.lt_size hx)
  have hid : ∀ b o, (hideAll s.heap [x]).get? b = some o → (h₂.push (kxs_mw "ValueError.__init__" x)).get? b = some o := fun b o z => kk b o (of_hideAll _ z)
  have FF : Fr (hideAll s.heap [x]) s.heap.objs.size (h₂.push (kxs_mw "ValueError.__init__" x)) (fun y => ([(("self" : Str), .ref x), (pn, v)] : List (Str × Value)).reverse.lookup y) := ⟨(hns.keeps k₂).keeps k₃, hid, Nat.le_of_eq (hideAll_size _ _)⟩
  have zL : s.heap.objs.size < h₁.objs.size := hns.lt
  have zL2 : h₁.objs.size < h₂.objs.size := Heap.lt_size e₂
  have hxn : ∀ b, s.heap.objs.size ≤ b → (hideAll s.heap [x]).get? b = none := fun b hb => by
    cases z : (hideAll s.heap [x]).get? b with
    | none => rfl
    | some o => exact absurd (Heap.lt_size (of_hideAll _ z)) (Nat.not_lt.mpr hb)
  have NN : News (hideAll s.heap [x]) s.heap.objs.size (h₂.push (kxs_mw "ValueError.__init__" x)) [(x, excObj C t0 none .none), (h₂.objs.size, kxs_mw "ValueError.__init__" x)] := by
    intro p hp
    rcases List.mem_cons.mp hp with rfl | hp
    · exact ⟨k₃ _ _ hx₂, Ne.symm nL, hideAll_none _ (by simp)⟩
    · rcases List.mem_cons.mp hp with rfl | hp
      · refine ⟨Heap.get?_push_at rfl rfl, ?_, hxn _ (Nat.le_of_lt (Nat.lt_trans zL zL2))⟩
        exact Nat.ne_of_gt (Nat.lt_trans zL zL2)
      · cases hp
  have XH : K.In (hideAll s.heap [x]) := fun a o z => hideAll_get _ (X a o z) (by
    intro hm
    rw [List.mem_singleton] at hm
    rw [hm, hnx] at z
    cases z)
  have nxu : h₂.objs.size ≠ x := Nat.ne_of_gt (Heap.lt_size hx₂)
  have U : UpdF x (excObj C t0 none .none) [(x, excObj C t0 none .none), (h₂.objs.size, kxs_mw "ValueError.__init__" x)] (fun o' => (x, o') :: [(h₂.objs.size, kxs_mw "ValueError.__init__" x)]) := .head fun p hp => by
    rcases List.mem_cons.mp hp with rfl | hp
    · exact nxu
    · cases hp
  refine kxs_call (m := fun y => ([(("self" : Str), .ref x), (pn, v)] : List (Str × Value)).reverse.lookup y) FF XH NN F.excBase_ValueError T.ini (by simp) U (one_small _) (fun t' h₄ F4 N4 _ => ?_)
  have hx4 : h₄.get? x = some (excObj C t' none .none) := (N4 _ (List.mem_cons_of_mem _ List.mem_cons_self)).1
  have X4 : K.In h₄ := XH.keeps F4.keep
  refine ks_wpAt_execs_cons (wpAt_of_wpAny (plainObj_wpAny_Assign_Attribute ?_))
  refine wpAny_Name (wpAny_loadName_local rfl T.wd.kP F4.ns lP ?_) T.wd.dbg
  refine wpAny_Name (wpAny_loadName_local rfl T.wd.kF F4.ns lS ?_) (by decide)
  refine set_plain X4 (ox := excO C t') (od := none) ⟨hx4, rfl, rfl, trivial⟩ T.sa ?_
  refine exc_osa X4 hx4 hcl (show refsVE (.ref C :: bm) = true from hbm) rfl T.noN (fun h5 tk5 dx k5' dn dne hx5 hn5 => ?_)
  refine wpAt_of_wpAny (wpAny_execs_nil (hq h5 tk5 dx t' ⟨fun b o hb e => k5' b o hb (F4.keep b o (hideAll_get _ e (by simpa using hb))), hx5, ?_, dne, hn5⟩))
  exact Nat.le_trans (Nat.le_of_lt F4.ns.lt) dn
/-- a made error: at e, of class C, its own dict d holds the field -/
structure Made (h h' : Heap) (e C d : Addr) (f : Str) (v : Value) : Prop where
  keep : ∀ b o, h.get? b = some o → h'.get? b = some o
  new : h.objs.size ≤ e
  obj : ∃ oe vs, h'.get? e = some oe ∧ oe.cls = .ref C ∧ oe.dict = some d ∧ oe.data = .fields vs ∧ vs[1]? = some .none ∧ vs[2]? = some .none
  dbig : h.objs.size ≤ d
  dne : d ≠ e
  ns : h'.Ns1 d (fun y => if y = f then some v else none)
theorem xmade (T : Txt P K C D fI q f pn) (iC : findIn K (.ref C) "__init__" = some (some (.ref fI))) (tC : typeIn K (.ref fI) = some (.type "function")) {v : Value} {mg mb : Str → Option Value} (X : K.In s.heap)
    (hg : s.heap.Ns mainGlobals mg) (hm : mg "super" = none) (hb : s.heap.Ns builtinsNs mb) (hmb : mb "super" = bootBuiltins "super") (hlim : s.heap.NoLimit) (hroom : A.depth + 1 < recursionLimit)
    (hq : ∀ h' tk e d, Made s.heap h' e C d f v → R (.ok (.ret (.ref e))) { s with heap := h', toks := tk }) :
    codeAny (model P w) A (.call (.ref C) ⟨[v], []⟩) R s := by
  obtain ⟨nm, qq, N, bs, bm, sn, sub, ab, col, dd, k0, k1, k2, k3, k5, hC, hbm⟩ := T.cls
  obtain ⟨hp, g, dr, tk, os⟩ := s
  have k : ∀ b o, hp.get? b = some o → ((hp.push (kdv_tup [v])).push (excO C hp.objs.size)).get? b = some o := fun b o e => Heap.get?_push_of_some _ (Heap.get?_push_of_some _ e)
  have hget : ((hp.push (kdv_tup [v])).push (excO C hp.objs.size)).get? (hp.objs.size + 1) = some (excO C hp.objs.size) := by heap_get
  have hnx : K.lookup (hp.objs.size + 1) = none := by
    cases e : K.lookup (hp.objs.size + 1) with
    | none => rfl
    | some o =>
      have z : hp.get? (hp.objs.size + 1) = some o := X _ _ e
      exact absurd (Nat.lt_of_succ_lt (Heap.lt_size z)) (Nat.lt_irrefl _)
  refine call_own F.excBase_ValueError (fun X => refsVE_contains X bm hbm) (X _ _ hC) (looks_findIn X iC) (fun self => bind_fn X self tC) (one_small v) ?_
  refine xinit (s := ⟨(hp.push (kdv_tup [v])).push (excO C hp.objs.size), g, dr, tk, os⟩) T (X.keeps k) (hg.keeps k) hm (hb.keeps k) hmb (hlim.keeps k) hget hnx ?_ fun h' tk' dx t1 ⟨k', hx, dn, dne, hns⟩ => ?_
  · show A.depth + 1 < recursionLimit
    exact hroom
  · have old : ∀ b o, hp.get? b = some o → h'.get? b = some o := fun b o e => k' b o (Nat.ne_of_lt (Nat.lt_succ_of_lt (Heap.lt_size e))) (k b o e)
    have z : hp.objs.size + 1 + 1 ≤ dx := by
      have q := dn
      rw [Heap.size_push, Heap.size_push] at q
      exact q
    exact ⟨rfl, hq h' tk' (hp.objs.size + 1) dx ⟨old, Nat.le_succ _, ⟨_, _, hx, rfl, rfl, rfl, rfl, rfl⟩, Nat.le_trans (Nat.le_trans (Nat.le_succ _) (Nat.le_succ _)) z, dne, hns⟩⟩
end
end OwnX
end PySem
namespace L2
open PySem PySem.Spec PyProof.Rows
theorem relO_one {v : V} {v' : Value} (r : RelV v v') (f g : Str) : RelO (List.lookup g [(f, v)]) (if g = f then some v' else none) := by
  by_cases hw : g = f
  · subst hw
    rw [if_pos rfl]
    have q : List.lookup g [(g, v)] = some v := by simp [List.lookup]
    rw [q]
    exact r
  · rw [if_neg hw]
    have qw : (g == f) = false := by simpa using hw
    have q2 : List.lookup g [(f, v)] = none := by simp [List.lookup, qw]
    rw [q2]
    trivial
/-- an error class of one field, named nm at the top, at C: what the top has written of it -/
structure XCls (P : Program) (K : PySem.W.Frag) (mg : Str → Option Value) (nm : Str) (C : Addr) (f : Str) : Prop where
  gC : mg nm = some (.ref C)
  how : ∃ D fI q pn, PySem.OwnX.Txt P K C D fI q f pn ∧ PySem.W.findIn K (.ref C) "__init__" = some (some (.ref fI)) ∧ PySem.W.typeIn K (.ref fI) = some (.type "function")
  kC : PySem.W.keepIn K (.ref C) = true
  exC : PySem.W.subIn K (.ref C) (.type "BaseException") = some true
  tyC : PySem.W.typeIn K (.ref C) = some (.type "type")
  ga : PySem.W.findIn K (.ref C) "__getattribute__" = some (some (.builtin "BaseException.__getattribute__"))
  gg : PySem.W.findIn K (.ref C) "__getattr__" = some none
  hdC : PySem.W.hasDictIn K C = true
  sup : mg "super" = none
section
variable {X : Cx} {C : Addr} {nm f : Str}
/-- E(e) -/
def tMkX (C : Addr) (f : Str) (ta : TA) : St → Hp → XK → Prop := fun σ H Q => ta σ H fun vs H1 => ∃ v, vs = [v] ∧ ∀ d, H1 d = none → Q (.ref C) (some d) (upd H1 d (.xd [(f, v)]))
theorem pmk_x {a : Expr} {ta : TA} {p pos : Pos} {k : Nat} (T : XCls X.prog X.K X.mg nm C f) (hr : Room k X.A) (ha : PA X [a] ta) (hg : Gl X nm := by rfl)
    (hd : (nm == ("__debug__" : Str)) = false := by decide)
    (he : starEach (a :: []) X.env = (false, eval a X.env) :: starEach [] X.env := by rfl) (hpl : (backTo pos (starEach [] X.env)).any (·.1) = false := by rfl) :
    L2N.PMk X (.Call (.Name nm p) [a] [] pos) (tMkX C f ta) := by
  intro pins s σ H Q I h
  obtain ⟨D, fI, q, pn, TT, iC, tC⟩ := T.how
  refine wpAny_Call_Name_kw (ld_glob I hg T.gC ?_ hd)
  refine PySem.W.callWith_K (h₀ := X.base) I.ok.mod.kin T.kC (thn (ha.run pos pins s σ H _ I h) fun us s1 hh => ?_) he hpl
  obtain ⟨vs, H1, I1, r1, v, ev, q1⟩ := hh
  subst ev
  refine ⟨I1.kIn, ?_⟩
  cases r1 with
  | cons rv rn =>
    rename_i v' us'
    cases rn
    show wpAny _ _ (call (.ref C) [v']) _ _ _
    have hlim := I1.nolimit
    obtain ⟨mb, b1, b2⟩ := I1.mod.blt
    have hg1 := I1.mod.glob.keeps I1.bk
    have hb1 := b1.keeps I1.bk
    obtain ⟨hp, g, dr, tk, os⟩ := s1
    refine wpAny_call (PySem.OwnX.xmade TT iC tC I1.kIn hg1 T.sup hb1 (b2 _ (by decide)) hlim (by have := hr.dp; omega) fun h' tk' e d M => ?_)
    show L2N.MkP X pins σ Q (.ref e) ⟨h', g, dr, tk', os⟩
    obtain ⟨oe, fv, hoe, hc, hd, hdat, h1, h2⟩ := M.obj
    have hns := M.ns
    obtain ⟨G', g1, g2⟩ := restrict h' fun b => decide (b ≠ e)
    have gk : ∀ b, b ≠ e → G'.get? b = h'.get? b := fun b hb => g1 b (decide_eq_true hb)
    have ge : G'.get? e = none := g2 e (by simp)
    have old : ∀ b o, hp.get? b = some o → G'.get? b = some o := fun b o q => (gk b (Nat.ne_of_lt (Nat.lt_of_lt_of_le (Heap.lt_size q) M.new))).trans (M.keep b o q)
    have ob : ObjOk X.prog X.w (upd H1 d (.xd [(f, v)])) G' d (.xd [(f, v)]) :=
      ⟨_, hns.at (fun o q => (gk d M.dne).trans q), fun g => relO_one rv f g⟩
    have J : Inv X pins σ (upd H1 d (.xd [(f, v)])) ⟨G', g, dr, tk', os⟩ := I1.laid (t' := tk') old M.dbig ob
    refine ⟨e, oe, fv, ⟨G', g, dr, tk', os⟩, _, .ref C, some d, rfl, J, fun b o q => ?_, ge, hoe, ⟨hc, hd, fun vs e => by rw [hdat] at e; cases e; exact h2⟩, hdat, h1, ?_, rfl, I1.bare, raises_own T.exC T.tyC, q1 d (I1.hok.fresh M.dbig)⟩
    · by_cases hb : b = e
      · have q' : G'.get? b = some o := q
        rw [hb, ge] at q'; cases q'
      · exact (gk b hb).symm.trans q
    · rw [upd_ne (Ne.symm M.dne)]
      exact I1.hok.fresh M.new
/-- raise E(e) -/
def tRaiseX (C : Addr) (f : Str) (W : WX) (ta : TA) : TS := fun _ σ H => tMkX C f ta σ H fun cls d H' => W cls d σ H'
theorem ps_raiseX {a : Expr} {ta : TA} {W : WX} {p pos pos2 : Pos} {k : Nat} (hc : X.calm = true) (T : XCls X.prog X.K X.mg nm C f) (hr : Room k X.A) (tk : L2N.Takes X W) (ha : PA X [a] ta) (hg : Gl X nm := by rfl)
    (hd : (nm == ("__debug__" : Str)) = false := by decide)
    (he : starEach (a :: []) X.env = (false, eval a X.env) :: starEach [] X.env := by rfl) (hpl : (backTo pos (starEach [] X.env)).any (·.1) = false := by rfl) :
    PS X (.Raise (some (.Call (.Name nm p) [a] [] pos)) none pos2) (tRaiseX C f W ta) := L2N.ps_raise hc tk (pmk_x T hr ha hg hd he hpl)
end
end L2
namespace L2
open PySem PySem.Spec PyProof.Rows PySem.W PySem.HandSPX
/-- an error class of one field, from what the written part says -/
theorem XCls.of {P : Program} {K : Frag} {h : Heap} {mg : Str → Option Value} {nm q q' f pn nm' : Str} {C D fI N cda cc : Addr} {bs bm : List Value} {sn : List Str} {sub : List Value} {ab : Bool} {col : Option Bool} {dd od an cdd cld : Option Addr} {k0 k1 k2 k3 k5 : Option Value}
    {oc doc pm ct ccl cl : Value} {osl ccs csl : Array (Option Value)} {txt file : Str} {k : Nat} {p1 p2 a b c d e q1 a1 b1 c1 d1 : Pos} {vs : Array Value} {tf : Tok} (wd : PySem.OwnX.Word pn) (X : K.In h) (G : h.Ns mainGlobals mg)
    (gC : nsIn K mainGlobals nm = some (some (.ref C))) (cls : K.lookup C = some (excClassObj nm' q' C N bs bm true sn sub ab col dd k0 k1 k2 k3 k5 "ValueError.__new__")) (rv : refsVE bm = true)
    (iC : findIn K (.ref C) "__init__" = some (some (.ref fI))) (tI : typeIn K (.ref fI) = some (.type "function"))
    (fn : K.lookup fI = some ⟨oc, od, .func (ksFn "__init__" q (PySem.OwnX.xA pn p1 p2) (PySem.OwnX.xB txt f pn k a b c d e q1 a1 b1 c1 d1) (PySem.OwnX.xS pn) .none .none doc pm an (.ref cda) ct cc), osl⟩) (ps : (c.endLine == e.line) = true)
    (cd : codeIn K (.ref cda) q = true) (cv : K.lookup cda = some ⟨ccl, cdd, .fields vs, ccs⟩) (fl : vs[2]? = some (.str file tf)) (fm : ((P.main.file : Str) == file) = true) (ce : K.lookup cc = some ⟨cl, cld, .cell (some (.ref D)), csl⟩)
    (ini : excInitIn K C veTail "ValueError.__new__" = true) (sa : findIn K (.ref C) "__setattr__" = some (some (.builtin "object.__setattr__"))) (noN : findIn K (.ref C) f = some none) (hD : isClsIn K D = true) (subD : mroIn K C (.ref D) = some true)
    (subV : subIn K (.ref C) (.type "ValueError") = some true) (opq : nsIn K cStatics "thirdparty.any" = some none) (sup : ks_superIn K C D "__init__" = some (some (.builtin "ValueError.__init__"))) (top : (P.main.scope.names.lookup ("super" : Str)).isSome = false)
    (kC : keepIn K (.ref C) = true) (exC : subIn K (.ref C) (.type "BaseException") = some true) (tyC : typeIn K (.ref C) = some (.type "type")) (ga : findIn K (.ref C) "__getattribute__" = some (some (.builtin "BaseException.__getattribute__")))
    (gg : findIn K (.ref C) "__getattr__" = some none) (hdC : hasDictIn K C = true) (su : nsIn K mainGlobals "super" = some none) : XCls P K mg nm C f :=
  ⟨mg_of X G gC, ⟨D, fI, q, pn, ⟨⟨_, _, _, _, _, _, _, _, _, _, _, _, _, _, _, cls, rv⟩, ⟨_, _, _, _, _, _, _, _, _, _, _, _, _, _, _, _, _, _, _, _, _, _, _, ps, fn, cd, ⟨_, _, _, _, _, _, cv, fl, fm⟩, _, _, _, ce⟩, ini, sa, noN, hD, subD, subV, opq, sup, top, wd⟩, iC, tI⟩, kC, exC, tyC, ga, gg, hdC, mg_none_of X G su⟩
end L2

set_option Elab.async false
set_option linter.all false
set_option maxRecDepth 100000
set_option maxHeartbeats 4000000
/-! several except clauses, each with or without a name; isinstance of a caught error that has a dict -/
namespace L2
open PySem PySem.Spec PyProof.Rows
/-- a clause «except C as n»: n (slot i) holds the error, and is empty behind the suite -/
def hAs (i : Nat) (ts : Addr → Value → Option Addr → TS) : Addr → Value → Option Addr → TS := fun a cls d D σ H =>
  ts a cls d ⟨fun τ G => D.nx (τ.set i none) G, D.rt, fun τ G => D.bk (τ.set i none) G, fun τ G => D.ct (τ.set i none) G⟩ (σ.set i (some (.ref a))) H
/-- a clause's suite, run with the error at a held -/
def SuiteOk (X : Cx) (suite : List Stmt) (ts : Addr → Value → Option Addr → TS) : Prop :=
  ∀ (a : Addr) (oe : Obj) (cls : Value) (d : Option Addr) (pn : List (Addr × Obj)), L2N.Zn cls d oe → (∃ vs, oe.data = .fields vs) → PSs (X.suite a ((a, oe) :: pn)) suite (ts a cls d)
inductive Hdl (X : Cx) : List ExceptHandler → List (Value × (Addr → Value → Option Addr → TS)) → Prop
  | done : Hdl X [] []
  | bare {x c ts b₀ suite np q hds l} (hc : Names X x c) (hs : SuiteOk X (b₀ :: suite) ts) (r : Hdl X hds l) : Hdl X (.ExceptHandler (some (.Name x np)) none (b₀ :: suite) q :: hds) ((c, ts) :: l)
  | named {x c ts b₀ suite np q hds l} {n : Str} {i : Nat} (hN : X.N.Nodup) (hi : X.N[i]? = some n) (hln : X.env.kindOf n = some .local) (hc : Names X x c) (hs : SuiteOk X (b₀ :: suite) ts) (r : Hdl X hds l) :
      Hdl X (.ExceptHandler (some (.Name x np)) (some n) (b₀ :: suite) q :: hds) ((c, hAs i ts) :: l)
section
variable {X : Cx} {pins : List (Addr × Obj)}
/-- an error of the body at a, seen by the clauses: all that they go on with -/
structure Seen (X : Cx) (pins : List (Addr × Obj)) (σ : St) (H : Hp) (B : Heap) (sI s' : Shared) (a : Addr) (cls : Value) (d : Option Addr) (h : Heap) : Prop where
  fl : HandSPX.FlyingZ B (X.env :: X.outer) a (L2N.Zn cls d) h
  inv : Inv X pins σ H sI
  nb : ∀ b o, sI.heap.get? b = some o → b ∉ frs X.stack → B.get? b = some o
  up : sI.heap.UpToSlots h
  na : H a = none
  os : s'.os = sI.os
  ag : AllBare s'.gens
  nL : a ≠ X.env.locals
  nF : a ∉ X.fs
theorem Seen.here {σ : St} {H : Hp} {B : Heap} {sI s' : Shared} {a : Addr} {cls : Value} {d : Option Addr} {h : Heap} (S : Seen X pins σ H B sI s' a cls d h) : Inv X pins σ H { s' with heap := h } := S.inv.landed S.nb S.fl.1 S.up S.os S.ag
/-- the suite's ends, told of the state behind it -/
theorem suite_ends {Q : Flow → Shared → Prop} {D : Ends} {a : Addr} {oe : Obj} {suite : List Stmt} {t : TS} {s : Shared} {σ : St} {H : Hp} {E : Value → Shared → Prop}
    (ok : X.Ok) (S : Inv (X.suite a ((a, oe) :: (X.pn ++ pins))) [] σ H s) (hs : PSs (X.suite a ((a, oe) :: (X.pn ++ pins))) suite t) (h : t D σ H)
    (k : ∀ f s', SP X pins D f s' → Q f s') : wpAny (model X.prog X.w) (X.A.mark (some (.ref a))) (execs suite X.env) Q E s :=
  wpAny_mono (hs.run [] s σ H D S h) (fun f s' z => k f s' (by
    cases f with
    | ret u => obtain ⟨v, τ, G, J, r, q⟩ := z; exact ⟨v, τ, G, J.unsuite ok, r, q⟩
    | next => obtain ⟨τ, G, J, q⟩ := z; exact ⟨τ, G, J.unsuite ok, q⟩
    | brk => obtain ⟨τ, G, J, q⟩ := z; exact ⟨τ, G, J.unsuite ok, q⟩
    | cont => obtain ⟨τ, G, J, q⟩ := z; exact ⟨τ, G, J.unsuite ok, q⟩)) (fun _ _ z => z.elim)
theorem clauses {Wout : WX} {D : Ends} {σ : St} {H : Hp} {B : Heap} {sI s' : Shared} {a : Addr} {cls : Value} {d : Option Addr} {h : Heap} (ok : X.Ok) (hs : X.stack = X.env :: X.outer) (hf : X.env.frame = some X.env.locals)
    (tk : L2N.Takes X Wout) (S : Seen X pins σ H B sI s' a cls d h) {hds : List ExceptHandler} {l : List (Value × (Addr → Value → Option Addr → TS))} (hk : Hdl X hds l) (w : wMany X.K Wout D l cls d σ H) :
    wpAny (model X.prog X.w) X.A (handleBy (.ref a) X.env hds) (SP X pins D) X.xe { s' with heap := h } := by
  have J := S.here
  have test : ∀ {x : Str} {c : Value} {np : Pos} {Q : Value → Shared → Prop} {E : Value → Shared → Prop}, Names X x c → Q c { s' with heap := h } → wpAny (model X.prog X.w) (X.A.mark (some (.ref a))) (eval (.Name x np) X.env) Q E { s' with heap := h } := by
    intro x c np Q E hc q
    obtain ⟨oe, vs, he, hz, hd⟩ := S.fl.there
    have SS := J.suite he hd S.na S.nL S.nF
    obtain ⟨gl, nd, m | ⟨m, bv, nn⟩⟩ := hc
    · exact ld_glob (X := X.suite a ((a, oe) :: (X.pn ++ pins))) SS gl m q nd
    · exact ld_blt (X := X.suite a ((a, oe) :: (X.pn ++ pins))) SS gl m bv q nn nd
  have asks : ∀ {c : Value} {b : Bool}, PySem.W.exmOne X.K cls c = some b → PySem.W.Looks (model X.prog X.w) h (excMatches (.ref a) c) b := fun {c b} e => PySem.W.exm_one J.kIn (fun A Q E s k q => by
    obtain ⟨oe, vs, he, hz, hd⟩ := S.fl.there
    exact wpAny_typeOf_ref (k _ _ he) (by rw [hz.1]; exact q)) e
  induction hk with
  | done =>
    refine wpAny_handleBy_nil ?_
    obtain ⟨_, _, _, oe, vs, T, oT, ts', he, _, hd, h1, _⟩ := id S.fl
    unfold PySem.passOn
    refine wpAny_bind (wpAny_field he hd h1 ?_)
    have ne : ¬ ((Value.ref T == Value.none) = true) := by simp
    rw [if_neg ne]
    have rest : wpAny (model X.prog X.w) X.A (setFlight (.ref a) X.env.frame) (fun _ t => wpAny (model X.prog X.w) X.A (throw (.ref a) : Sem Flow) (SP X pins D) X.xe t) X.xe { s' with heap := h } := by
      rw [hf]
      refine HandSPX.setFlight_upZ S.fl fun g hg ug => wpAny_throw (tk _ _ ⟨a, B, sI, pins, σ, H, cls, d, rfl, S.inv, S.nb, S.up.trans ug, .inr (.inr ?_), S.na, S.os, S.ag, w⟩)
      rw [hs]
      exact hg
    first
      | exact wpAny_bind rest
      | exact wpAny_bind (wpAny_pure (wpAny_bind rest))
  | @bare x c ts b₀ suite np q hds2 l2 hc hsu r ih =>
    obtain ⟨b, e1, yes, no⟩ := w
    refine wpAny_handleBy_cons (codeAny_handlers_test (test hc ((asks e1).here ?_))) (by intro q; cases q)
    cases b with
    | false =>
      show wpAny _ X.A (handleBy (.ref a) X.env hds2) _ _ _
      exact ih (no rfl)
    | true =>
      refine codeAny_handlers_suite (HandSPX.lands_againZ S.fl fun g fg ug => ?_)
      have J4 : Inv X pins σ H { s' with heap := g } := S.inv.landed S.nb fg.1 (S.up.trans ug) S.os S.ag
      obtain ⟨oe, vs, he, hz, hd⟩ := fg.there
      exact suite_ends ok (J4.suite he hd S.na S.nL S.nF) (hsu a oe cls d (X.pn ++ pins) hz ⟨_, hd⟩) (yes rfl a S.na) (fun f s6 z => z)
  | @named x c ts b₀ suite np q hds2 l2 n i hN hi hln hc hsu r ih =>
    obtain ⟨b, e1, yes, no⟩ := w
    refine wpAny_handleBy_cons (codeAny_handlers_test (test hc ((asks e1).here ?_))) (by intro q; cases q)
    cases b with
    | false =>
      show wpAny _ X.A (handleBy (.ref a) X.env hds2) _ _ _
      exact ih (no rfl)
    | true =>
      refine codeAny_handlers_suite_as (HandSPX.lands_againZ S.fl fun g fg ug => ?_)
      have J4 : Inv X pins σ H { s' with heap := g } := S.inv.landed S.nb fg.1 (S.up.trans ug) S.os S.ag
      obtain ⟨oe, vs, he, hz, hd⟩ := fg.there
      refine store_ok (X := X.suite a ((a, oe) :: (X.pn ++ pins))) (v := .ref a) (J4.suite he hd S.na S.nL S.nF) hN hi (.inl hln) rfl (fun s5 S5 => ?_) (.inr hln)
      refine suite_ends ok S5 (hsu a oe cls d (X.pn ++ pins) hz ⟨_, hd⟩) (yes rfl a S.na) (fun f s6 z => ?_)
      cases f with
      | ret u => obtain ⟨v, τ, G, J6, r6, q6⟩ := z; exact gone_ok J6 hN hi hln fun s7 J7 => ⟨v, _, _, J7, r6, q6⟩
      | next => obtain ⟨τ, G, J6, q6⟩ := z; exact gone_ok J6 hN hi hln fun s7 J7 => ⟨_, _, J7, q6⟩
      | brk => obtain ⟨τ, G, J6, q6⟩ := z; exact gone_ok J6 hN hi hln fun s7 J7 => ⟨_, _, J7, q6⟩
      | cont => obtain ⟨τ, G, J6, q6⟩ := z; exact gone_ok J6 hN hi hln fun s7 J7 => ⟨_, _, J7, q6⟩
theorem ps_tryN {body : List Stmt} {h₀ : ExceptHandler} {hds : List ExceptHandler} {l : List (Value × (Addr → Value → Option Addr → TS))} {pos : Pos} {tb : WX → TS} {Wout : WX}
    (hs : X.stack = X.env :: X.outer) (hf : X.env.frame = some X.env.locals) (tk : L2N.Takes X Wout)
    (hb : ∀ (W : WX) (pn : List (Addr × Obj)) (xe : Value → Shared → Prop), L2N.Takes (X.tr pn xe) W → PassesOwn (model X.prog X.w) X.A X.env xe → PSs (X.tr pn xe) body (tb W))
    (hh : Hdl X (h₀ :: hds) l) : PS X (.Try body (h₀ :: hds) [] [] pos) (fun D σ H => tb (wMany X.K Wout D l) D σ H) := by
  refine ⟨fun pins s σ H D I h => wpAny_Try_except ?_⟩
  have ok := I.ok
  have hfr : X.A.frames = some (X.env :: X.outer) := by rw [ok.frames, hs]
  refine wpAny_mono ((hb (wMany X.K Wout D l) (X.pn ++ pins) _ ?_ PassesOwn.looking).run [] s σ H D (I.toTry _) h) (fun f t z => ?_) (fun _ _ z => z)
  · rintro u s' ⟨a, B, sI, ps, τ, G, cls, d, rfl, J', nb, up, sky, na, os, ag, w⟩
    have J : Inv X pins τ G sI := J'.ofTry ok
    show wpAny (model X.prog X.w) X.A (noteFrame (.ref a) X.env) _ _ _
    refine L2N.Sky.land L2N.Zn.steady hfr hf (by rw [← hs]; exact sky) fun g fg ug => ?_
    obtain ⟨oe, vs, he, hz, hd⟩ := fg.there
    have nfr : a ∉ frs (X.env :: X.outer) := fun hm => by
      obtain ⟨_, o', e', hnf⟩ := fg.2.2.1.mem hm
      rw [he] at e'
      cases e'
      exact hnf _ hd
    refine clauses ok hs hf tk ⟨fg, J, nb, up.trans ug, na, os, ag, fun z => nfr (List.mem_filterMap.mpr ⟨X.env, List.mem_cons_self, by rw [hf, z]⟩), fun hm => ?_⟩ hh w
    obtain ⟨e, he', q⟩ := List.mem_filterMap.mp hm
    exact nfr (List.mem_filterMap.mpr ⟨e, List.mem_cons_of_mem _ he', q⟩)
  · cases f with
    | ret u => obtain ⟨v, τ, G, J, r, q⟩ := z; exact ⟨v, τ, G, J.ofTry ok, r, q⟩
    | next => obtain ⟨τ, G, J, q⟩ := z; exact wpAny_execs_nil ⟨τ, G, J.ofTry ok, q⟩
    | brk => obtain ⟨τ, G, J, q⟩ := z; exact ⟨τ, G, J.ofTry ok, q⟩
    | cont => obtain ⟨τ, G, J, q⟩ := z; exact ⟨τ, G, J.ofTry ok, q⟩
end
/-- isinstance(e, c) of the error that the suite holds, its class told only in the reading -/
def rIsX (K : PySem.W.Frag) (a : Addr) (cls : Value) (d : Option Addr) : List V → Hp → VK → Prop := fun xs H Q => ∃ (D : Addr) (c : V) (cv : Value) (b : Bool), cls = .ref D ∧ ExcC K D ∧ (∀ dd, d = some dd → ∃ fs, H dd = some (.xd fs)) ∧ xs = [.ref a, c] ∧ (∀ u, RelV c u → u = cv) ∧ PySem.W.kitOne K cls cv = some b ∧ Q (.bl b) H
theorem call_isX {X : Cx} {a : Addr} {cls : Value} {d : Option Addr} {oe : Obj} {pn : List (Addr × Obj)} (hz : L2N.Zn cls d oe) (hf : ∃ vs, oe.data = .fields vs) :
    CallR (X.suite a ((a, oe) :: pn)) (.builtin "isinstance") (rIsX X.K a cls d) := by
  intro pins s σ H xs us Q I r h
  obtain ⟨D, c, cv, b, rfl, C, hd, rfl, hcv, e, q⟩ := h
  cases r with
  | cons rx rr =>
    cases rr with
    | cons rt rr =>
      cases rr
      cases rx
      obtain rfl := hcv _ rt
      obtain ⟨hget, _⟩ := I.pin (a, oe) (List.mem_append.mpr (.inl List.mem_cons_self))
      obtain ⟨vs, hv⟩ := hf
      obtain ⟨od, J⟩ : ∃ od, PySem.W.InstAt s.heap a oe D od := by
        obtain ⟨oc, odd, oda, osl⟩ := oe
        obtain ⟨h1, h2, _⟩ := hz
        dsimp only at h1 h2 hv
        subst h1 h2 hv
        cases odd with
        | none => exact ⟨none, hget, rfl, rfl, trivial⟩
        | some dd =>
          obtain ⟨fs, ea⟩ := hd dd rfl
          have hx : ObjOk X.prog X.w H s.heap dd (.xd fs) := I.hok dd _ ea
          obtain ⟨mA, hns, _⟩ := hx
          obtain ⟨od, hod, _⟩ := lookIn_ns hns
          exact ⟨some od, hget, rfl, rfl, hod⟩
      obtain ⟨cd, hcd, _⟩ := PySem.W.any_some C.hd
      exact PySem.W.kia_one (PySem.W.kitx_exc (od := od) (by rw [hcd]; rfl) C.hg C.hk C.hs C.ha C.hn C.ht C.hm) I.kIn J e (fun z => nomatch z) fun tk => ⟨.bl b, H, I.kept (t' := tk) fun _ _ z => z, rfl, q⟩
theorem XCls.xf {P : Program} {K : PySem.W.Frag} {mg : Str → Option Value} {nm f : Str} {C : Addr} (T : XCls P K mg nm C f) : XfC K C := ⟨T.ga, T.gg, T.exC, T.hdC⟩
theorem XCls.noF {P : Program} {K : PySem.W.Frag} {mg : Str → Option Value} {nm f : Str} {C : Addr} (T : XCls P K mg nm C f) : PySem.W.findIn K (.ref C) f = some none := by
  obtain ⟨_, _, _, _, h, _⟩ := T.how
  exact h.noN
end L2

set_option Elab.async false
set_option linter.all false
set_option maxRecDepth 100000
set_option maxHeartbeats 4000000
/-! own operators of instances that have a dict -/
namespace PySem.W
open PySem PySem.Calls PyProof.Rows
section
variable {prog : Program} {w : World} {A : Around} {E : Value → Shared → Prop} {s : Shared} {K : Frag} {x C L f : Addr} {h₀ : Heap} {m : Str → Option Value} {ox : Obj} {od : Option Obj} {b tb : Value}
/-- x != b where only __eq__ is the class's own -/
theorem ne_own {Q : Value → Shared → Prop} (hu : A.units + 1 < cLine) (F : Fr h₀ L s.heap m) (X₀ : K.In h₀) (I : InstAt s.heap x ox C od) (hb : Looks (model prog w) s.heap (typeOf b) tb) (hn : notFirst K C tb = true)
    (hne : findIn K (.ref C) "__ne__" = some (some (.builtin "object.__ne__"))) (hob : subIn K (.ref C) (.type "object") = some true)
    (hs : findIn K (.ref C) "__eq__" = some (some (.ref f))) (hf : isFn K (.ref f) = true)
    (h : wpAny (model prog w) A.in1 (call (.ref f) [.ref x, b]) (fun r s' => ∃ y, r = .bool y ∧ Q (.bool (!y)) s') E s) : wpAny (model prog w) A (richCompare .NotEq (.ref x) b) Q E s := by
  have X := X₀.keeps F.keep
  have hu0 : A.units < cLine := Nat.lt_of_succ_lt hu
  have inst : Looks (model prog w) s.heap (isInstance (.ref x) (.type "object")) true := I.type.andThen (looks_subIn X hob)
  have body : wpAny (model prog w) A (call (.builtin "object.__ne__") [.ref x, b]) (fun v s' => ∃ y, v = .bool y ∧ Q v s') E s := by
    refine wpAny_call (codeAny_call_builtin PySem.F.cmp_object.ne.plain PySem.F.cmpEntry_ne (check_slot PySem.F.cmpKind_ne PySem.F.cmpSplit_ne inst (PySem.F.cmpArgs_ne _ _) ?_))
    unfold Builtin.«object.__ne__»
    refine wpAny_bind (wpAny_of_eq (a := ((Value.ref x : Value), [b])) (by first | rfl | (simp only [slotArgs]; rfl)) ?_)
    refine wpAny_bind (wpAny_cRoomFor (A := A.in1) hu (wpAny_bind (ifBound_K X I hs hf (wpAny_mono h (fun r s' z => ?_) fun _ _ e => e))))
    obtain ⟨y, rfl, q⟩ := z
    exact wpAny_bind (wpAny_pure (wpAny_pure ⟨_, rfl, q⟩))
  have one : wpAny (model prog w) A (tryCompare (.ref x) "__ne__" b) (fun r s' => ∃ v, r = some v ∧ Q v s') E s := by
    unfold tryCompare
    simp only [callSpecialIfBound?, bindSpecialIfBound?]
    refine wpAny_bind (wpAny_holding (wpAny_bind (wpAny_bind (wpAny_bind (I.type.here ((looks_findIn X hne).here ?_))))))
    refine wpAny_bind (wpAny_askSetting (wpAny_ite ?_))
    simp only [PySem.F.cmp_object.ne.bind]
    have fin : wpAny (model prog w) A (call (.builtin "object.__ne__") ([.ref x] ++ [b]) >>= fun v => pure (some v)) (fun o s' => wpAny (model prog w) A (match o with | some .notImplemented => pure none | none => pure none | some r => pure (some r)) (fun r s' => ∃ v, r = some v ∧ Q v s') E s') E s :=
      wpAny_bind (wpAny_mono body (fun v s' z => by
        obtain ⟨y, rfl, q⟩ := z
        exact wpAny_pure (wpAny_pure ⟨_, rfl, q⟩)) fun _ _ e => e)
    split
    · exact wpAny_bind (wpAny_pure (wpAny_pure fin))
    · exact wpAny_tryCatch (wpAny_bind (wpAny_pure (wpAny_pure fin)))
  unfold richCompare
  simp only [oneThing_ref, cmpInfo_NotEq]
  refine wpAny_holding (wpAny_bind (wpAny_cRoomFor hu0 (wpAny_bind (I.type.here (wpAny_bind (hb.here ?_))))))
  have go : ∀ k : Option Value → Sem Value, (∀ v, k (some v) = pure v) → wpAny (model prog w) A (tryCompare (.ref x) "__ne__" b >>= k) Q E s := fun k hk =>
    wpAny_bind (wpAny_mono one (fun r s' z => by
      obtain ⟨v, rfl, q⟩ := z
      rw [hk]
      exact wpAny_pure q) fun _ _ e => e)
  split
  · rename_i q
    have e : subIn K tb (.ref C) = some false := by
      rcases Bool.or_eq_true_iff.mp hn with e | e
      · rw [beq_iff_eq.mp e] at q
        simp at q
      · exact beq_iff_eq.mp e
    refine wpAny_bind ((looks_subIn X e).here ?_)
    simp only [Bool.false_eq_true, if_false]
    exact go _ (fun v => rfl)
  · refine wpAny_bind (wpAny_pure ?_)
    simp only [Bool.false_eq_true, if_false]
    exact go _ (fun v => rfl)
end
end PySem.W
namespace L2
open PySem PySem.Spec PyProof.Rows
theorem rel_ref (a : Addr) : RelV (.ref a) (.ref a) := rfl
/-- nothing is let out -/
abbrev EN : St → XK := fun _ _ _ _ => False
abbrev EF : XK := fun _ _ _ => False
theorem passN {X : Cx} {P : Program} {w : World} (hp : P = X.prog := by rfl) (hw : w = X.w := by rfl) (σ : St) : PassesAt (L2N.CX P w) X σ EF := by
  subst hp hw
  exact fun _ _ _ e s' I c => by
    have z := L2N.XE.of_call (W := fun _ _ _ _ => False) I (fun _ _ _ h => h) c
    obtain ⟨_, _, _, _, _, _, _, _, _, _, _, _, _, _, _, _, w⟩ := z
    exact w.elim
/-- the method m of the class at C, by its values -/
structure Own (P : Program) (w : World) (K : PySem.W.Frag) (mg : Str → Option Value) (base : Heap) (k : Nat) (C : Addr) (m : Str) (sp : Sp) : Prop where
  ex : ∃ f, PySem.W.findIn K (.ref C) m = some (some (.ref f)) ∧ PySem.W.isFn K (.ref f) = true ∧ FnR P w K mg base (L2N.CX P w) k f sp
section
variable {X : Cx} {pins : List (Addr × Obj)} {σ : St} {H : Hp} {s : Shared} {n k : Nat} {C : Addr} {sp : Sp} {E : St → XK} {m : Str}
theorem run_raw {A : Around} {f : Addr} {Q : VK} {us : List Value} {vs : List V} (F : FnR X.prog X.w X.K X.mg X.base (L2N.CX X.prog X.w) k f sp) (hr : Room k A) (e0 : Env0 X.prog X.w X.K X.mg X.base A X.stack s H) (hx : PassesAt (L2N.CX X.prog X.w) X σ (E σ))
    (I : Inv X pins σ H s) (r : Vals vs us) (h : sp vs H Q (E σ)) : wpAny (model X.prog X.w) A (call (.ref f) us) (EP X pins σ Q) X.xe s := by
  refine wpAny_call (codeAny_mono (F A X.stack s H us vs Q (E σ) hr e0 r h) fun r s' hq => ?_)
  cases r with
  | error e => exact hx pins H s e s' I hq
  | ok fl =>
    cases fl with
    | ret u => exact I.after hq
    | next => exact hq
    | brk => exact hq
    | cont => exact hq
/-- an instance of the class at C -/
def Ins (H : Hp) (C : Addr) (x : V) : Prop := ∃ a dx fs, x = .ref a ∧ H a = some (.ins C dx fs)
theorem Ins.inst {x : V} {u : Value} (I : Inv X pins σ H s) (r : RelV x u) (h : Ins H C x) : ∃ a ox od, x = .ref a ∧ u = .ref a ∧ PySem.W.InstAt s.heap a ox C (some od) := by
  obtain ⟨a, dx, fs, rfl, ha⟩ := h
  obtain ⟨mA, J, _⟩ := ins_get I.hok ha
  obtain ⟨od, J, _⟩ := J.look
  exact ⟨a, _, od, rfl, r, J⟩
/-- y in x, x an instance -/
def rInO (C : Addr) (sp : Sp) (neg : Bool) : R2 := fun x y H Q => Ins H C y ∧ sp [y, x] H (fun v H' => ∃ b : Bool, v = .bl b ∧ Q (.bl (b != neg)) H') EF
theorem op_inO (M : Own X.prog X.w X.K X.mg X.base k C "__contains__" sp) (hr : Room n X.A) (hk : k ≤ n) : OpR X (compareOp .In) (rInO C sp false) := by
  obtain ⟨f, hs, hf, F⟩ := M.ex
  intro pins s σ H x y v u Q I rx ry h
  obtain ⟨hy, q⟩ := h
  obtain ⟨a, ox, od, rfl, rfl, J⟩ := hy.inst I ry
  obtain ⟨mm, hF⟩ := I.fr
  refine PySem.W.in_K hF I.ok.mod.kin J hs hf (wpAny_mono (run_raw (E := EN) F (hr.mono hk) I.env0 (passN rfl rfl σ) I (.cons (rel_ref a) (.cons rx .nil)) q) (fun w s' z => ?_) fun _ _ z => z)
  obtain ⟨z', H', I', rz, b, rfl, qz⟩ := z
  cases (show w = Value.bool b from rz)
  refine wpAny_pure ?_
  have e : (b != false) = b := by cases b <;> rfl
  rw [e] at qz
  exact ⟨.bl b, H', I', rfl, qz⟩
theorem op_notInO (M : Own X.prog X.w X.K X.mg X.base k C "__contains__" sp) (hr : Room n X.A) (hk : k ≤ n) : OpR X (compareOp .NotIn) (rInO C sp true) := by
  obtain ⟨f, hs, hf, F⟩ := M.ex
  intro pins s σ H x y v u Q I rx ry h
  obtain ⟨hy, q⟩ := h
  obtain ⟨a, ox, od, rfl, rfl, J⟩ := hy.inst I ry
  obtain ⟨mm, hF⟩ := I.fr
  refine PySem.W.notIn_K hF I.ok.mod.kin J hs hf (wpAny_mono (run_raw (E := EN) F (hr.mono hk) I.env0 (passN rfl rfl σ) I (.cons (rel_ref a) (.cons rx .nil)) q) (fun w s' z => ?_) fun _ _ z => z)
  obtain ⟨z', H', I', rz, b, rfl, qz⟩ := z
  cases (show w = Value.bool b from rz)
  refine wpAny_pure ?_
  have e : (b != true) = !b := by cases b <;> rfl
  rw [e] at qz
  exact ⟨.bl (!b), H', I', rfl, qz⟩
/-- x op y by the own def, y of any type that is not below C -/
def rCmpO (K : PySem.W.Frag) (C : Addr) (sp : Sp) : R2 := fun x y H Q => Ins H C x ∧ (∃ t, TyX K H y t ∧ PySem.W.notFirst K C t = true) ∧ sp [x, y] H Q EF
theorem op_cmpO {op : CmpOp} (hop : ∀ a b, compareOp op a b = richCompare op a b) (M : Own X.prog X.w X.K X.mg X.base k C (cmpInfo op).2.1 sp) (hr : Room n X.A) (hk : k ≤ n) : OpR X (compareOp op) (rCmpO X.K C sp) := by
  obtain ⟨f, hs, hf, F⟩ := M.ex
  intro pins s σ H x y v u Q I rx ry h
  obtain ⟨hx, ⟨t, ty, hn⟩, q⟩ := h
  obtain ⟨a, ox, od, rfl, rfl, J⟩ := hx.inst I rx
  obtain ⟨PH, kx, hp, _⟩ := kit_of I ry ty
  obtain ⟨mm, hF⟩ := I.fr
  rw [hop]
  refine PySem.W.cmp_K (op := op) (tb := t) hr.units0 hF I.ok.mod.kin J (kx.ty _ _ I.kIn hp) hn hs hf ?_
  refine wpAny_mono (run_raw (E := EN) F (hr.mono hk) I.env0 (passN rfl rfl σ) I (.cons (rel_ref a) (.cons ry .nil)) q) (fun w s' z => ?_) fun _ _ z => z
  obtain ⟨z', H', I', rz, qz⟩ := z
  exact SlX.cmpback rz ⟨z', H', I', rz, qz⟩
/-- x != y by the own == -/
def rNeO (K : PySem.W.Frag) (C : Addr) (sp : Sp) : R2 := fun x y H Q => Ins H C x ∧ (∃ t, TyX K H y t ∧ PySem.W.notFirst K C t = true) ∧ sp [x, y] H (fun v H' => ∃ b : Bool, v = .bl b ∧ Q (.bl (!b)) H') EF
theorem op_neO (M : Own X.prog X.w X.K X.mg X.base k C "__eq__" sp) (hne : PySem.W.findIn X.K (.ref C) "__ne__" = some (some (.builtin "object.__ne__"))) (hob : PySem.W.subIn X.K (.ref C) (.type "object") = some true)
    (hr : Room n X.A) (hk : k + 1 ≤ n) : OpR X (compareOp .NotEq) (rNeO X.K C sp) := by
  obtain ⟨f, hs, hf, F⟩ := M.ex
  intro pins s σ H x y v u Q I rx ry h
  obtain ⟨hx, ⟨t, ty, hn⟩, q⟩ := h
  obtain ⟨a, ox, od, rfl, rfl, J⟩ := hx.inst I rx
  obtain ⟨PH, kx, hp, _⟩ := kit_of I ry ty
  obtain ⟨mm, hF⟩ := I.fr
  have hr1 : Room k X.A.in1 := (hr.mono hk).in1
  refine PySem.W.ne_own (tb := t) ?_ hF I.ok.mod.kin J (kx.ty _ _ I.kIn hp) hn hne hob hs hf ?_
  · exact hr1.units0
  refine wpAny_mono (run_raw (E := EN) F hr1 I.env0.in1 (passN rfl rfl σ) I (.cons (rel_ref a) (.cons ry .nil)) q) (fun w s' z => ?_) fun _ _ z => z
  obtain ⟨z', H', I', rz, b, rfl, qz⟩ := z
  cases (show w = Value.bool b from rz)
  exact ⟨b, rfl, .bl (!b), H', I', rfl, qz⟩
/-- the truth of x by its own __bool__ -/
def rTruO (C : Addr) (sp : Sp) : V → Hp → (Bool → Hp → Prop) → Prop := fun x H Q => Ins H C x ∧ sp [x] H (fun v H' => ∃ b : Bool, v = .bl b ∧ Q b H') EF
theorem tru_O (M : Own X.prog X.w X.K X.mg X.base k C "__bool__" sp) (hr : Room n X.A) (hk : k ≤ n) : TruR X (rTruO C sp) := by
  obtain ⟨f, hs, hf, F⟩ := M.ex
  intro pins s σ H x v Q I rx h
  obtain ⟨hx, q⟩ := h
  obtain ⟨a, ox, od, rfl, rfl, J⟩ := hx.inst I rx
  obtain ⟨mm, hF⟩ := I.fr
  refine PySem.W.truthy_K hF I.ok.mod.kin J hs hf (wpAny_mono (run_raw (E := EN) F (hr.mono hk) I.env0 (passN rfl rfl σ) I (.cons (rel_ref a) .nil) q) (fun w s' z => ?_) fun _ _ z => z)
  obtain ⟨z', H', I', rz, b, rfl, qz⟩ := z
  cases (show w = Value.bool b from rz)
  exact ⟨H', I', qz⟩
/-- what stands on the right of an own operator: an instance of the same class, or a number, of whose type the class is told -/
inductive RightO (K : PySem.W.Frag) (H : Hp) (C : Addr) (nm : String) : V → Prop
  | same {y : V} (h : Ins H C y) : RightO K H C nm y
  | int (i : Int) (h1 : (PySem.W.findIn K (.type "int") (PySem.dunder nm)).isSome = true) (h2 : (PySem.W.findIn K (.type "int") (dunderR nm)).isSome = true) (hs : PySem.W.subIn K (.type "int") (.ref C) = some false)
      (hr : ∃ rc, PySem.W.findIn K (.ref C) (dunderR nm) = some rc ∧ (rc = none ∨ ∃ g : Addr, rc = some (.ref g))) : RightO K H C nm (.int i)
/-- x op y by the own def -/
def tBinO (K : PySem.W.Frag) (C : Addr) (nm : String) (sp : Sp) (E : St → XK) (ta tb : TE) : TE := fun σ H Q => ta σ H fun x H1 => tb σ H1 fun y H2 => Ins H2 C x ∧ RightO K H2 C nm y ∧ sp [x, y] H2 Q (E σ)
theorem bin_O {op : Operator} {x y : V} {v u : Value} {Q : VK} (M : Own X.prog X.w X.K X.mg X.base k C (PySem.dunder op.info.2) sp) (sf : PySem.W.selfFirst X.K C = true) (hx : PassesAt (L2N.CX X.prog X.w) X σ (E σ)) (hr : Room k X.A)
    (I : Inv X pins σ H s) (rx : RelV x v) (ry : RelV y u) (hi : Ins H C x) (ho : RightO X.K H C op.info.2 y) (q : sp [x, y] H Q (E σ)) : wpAny (model X.prog X.w) X.A (binaryOp op v u) (EP X pins σ Q) X.xe s := by
  obtain ⟨f, hs, hf, F⟩ := M.ex
  obtain ⟨a, ox, od, rfl, rfl, J⟩ := hi.inst I rx
  obtain ⟨mm, hF⟩ := I.fr
  have back : wpAny (model X.prog X.w) X.A (call (.ref f) [.ref a, u]) (PySem.W.CmpBack (EP X pins σ Q)) X.xe s := by
    refine wpAny_mono (run_raw F hr I.env0 hx I (.cons (rel_ref a) (.cons ry .nil)) q) (fun w s' z => ?_) fun _ _ z => z
    obtain ⟨z', H', I', rz, qz⟩ := z
    exact SlX.cmpback rz ⟨z', H', I', rz, qz⟩
  cases ho with
  | same h =>
    obtain ⟨b, oy, od', rfl, rfl, J'⟩ := h.inst I ry
    exact PySem.W.binop_K hF I.ok.mod.kin J J'.type sf hs hf back
  | int i h1 h2 hsub h3 =>
    obtain ⟨t, rfl⟩ := ry
    obtain ⟨fo, h1⟩ := Option.isSome_iff_exists.mp h1
    obtain ⟨ro, h2⟩ := Option.isSome_iff_exists.mp h2
    obtain ⟨rc, h3, h4⟩ := h3
    exact PySem.W.ksp_binT (T := "int") hF I.ok.mod.kin J rfl sf hs hf h3 h4 h1 h2 hsub back
theorem pe_binO {op : Operator} {a b : Expr} {ta tb : TE} {pos : Pos} (M : Own X.prog X.w X.K X.mg X.base k C (PySem.dunder op.info.2) sp) (sf : PySem.W.selfFirst X.K C = true) (hr : Room n X.A) (hk : k ≤ n) (hx : ∀ σ, PassesAt (L2N.CX X.prog X.w) X σ (E σ))
    (ha : PE X a ta) (hb : PE X b tb) : PE X (.BinOp a op b pos) (tBinO X.K C op.info.2 sp E ta tb) := by
  refine ⟨fun pins s σ H Q I h => ?_⟩
  exact wpAny_BinOp (binT ha hb I h fun v u s2 x y H2 I2 rx ry q => bin_O M sf (hx σ) (hr.mono hk) I2 rx ry q.1 q.2.1 q.2.2)
/-- ~x by the own def -/
def tInvO (C : Addr) (sp : Sp) (E : St → XK) (ta : TE) : TE := fun σ H Q => ta σ H fun x H1 => Ins H1 C x ∧ sp [x] H1 Q (E σ)
theorem pe_invO {a : Expr} {ta : TE} {pos : Pos} (M : Own X.prog X.w X.K X.mg X.base k C "__invert__" sp) (hr : Room n X.A) (hk : k ≤ n) (hx : ∀ σ, PassesAt (L2N.CX X.prog X.w) X σ (E σ)) (ha : PE X a ta) : PE X (.UnaryOp .Invert a pos) (tInvO C sp E ta) := by
  obtain ⟨f, hs, hf, F⟩ := M.ex
  refine ⟨fun pins s σ H Q I h => UnaryOp_ (thn (ha.run pins s σ H _ I h) fun v s1 ⟨x, H1, I1, r1, hi, q⟩ => ?_)⟩
  obtain ⟨a, ox, od, rfl, rfl, J⟩ := hi.inst I1 r1
  obtain ⟨mm, hF⟩ := I1.fr
  exact PySem.W.ksp_inv hF I1.ok.mod.kin J hs hf (run_raw F (hr.mono hk) I1.env0 (hx σ) I1 (.cons (rel_ref a) .nil) q)
end
end L2

set_option Elab.async false
set_option linter.all false
set_option maxRecDepth 100000
set_option maxHeartbeats 4000000
/-! calls of defs, methods, classes and properties that may raise: by their values (FnR) -/
namespace L2
open PySem PySem.Spec PyProof.Rows
/-- the def named x -/
structure Fnc (P : Program) (w : World) (K : PySem.W.Frag) (mg : Str → Option Value) (base : Heap) (k : Nat) (x : Str) (sp : Sp) : Prop where
  ex : ∃ f, mg x = some (.ref f) ∧ PySem.W.keepIn K (.ref f) = true ∧ FnR P w K mg base (L2N.CX P w) k f sp
/-- the method m of the class at C, called by its name -/
structure Mtd (P : Program) (w : World) (K : PySem.W.Frag) (mg : Str → Option Value) (base : Heap) (k : Nat) (C : Addr) (m : Str) (sp : Sp) : Prop where
  ex : ∃ f, Cls K C ∧ Meth K C m f ∧ FnR P w K mg base (L2N.CX P w) k f sp
/-- the class named x at C; sp: its __init__ -/
structure Mkr (P : Program) (w : World) (K : PySem.W.Frag) (mg : Str → Option Value) (base : Heap) (k : Nat) (x : Str) (C : Addr) (sp : Sp) : Prop where
  ex : ∃ f, Mk K C f ∧ mg x = some (.ref C) ∧ FnR P w K mg base (L2N.CX P w) k f sp
/-- a property m of the class at C -/
structure Prp (P : Program) (w : World) (K : PySem.W.Frag) (mg : Str → Option Value) (base : Heap) (k : Nat) (C : Addr) (m : Str) (sp : Sp) : Prop where
  ex : ∃ p g, Cls K C ∧ PropOf K C m p g ∧ FnR P w K mg base (L2N.CX P w) k g sp
section
variable {X : Cx} {k n : Nat} {C : Addr} {sp : Sp} {E : St → XK} {x m : Str} {p pos apos : Pos} {e o : Expr} {es : List Expr} {ta : TE} {t : TA}
theorem pe_fc (c : Fnc X.prog X.w X.K X.mg X.base k x sp) (hr : Room n X.A) (hk : k ≤ n) (hg : Gl X x) (hx : ∀ σ, PassesAt (L2N.CX X.prog X.w) X σ (E σ)) (ha : PA X (e :: es) t)
    (hdb : (x == ("__debug__" : Str)) = false := by decide) (he : starEach (e :: es) X.env = (false, eval e X.env) :: starEach es X.env := by rfl) (hpl : (backTo pos (starEach es X.env)).any (·.1) = false := by rfl) :
    PE X (.Call (.Name x p) (e :: es) [] pos) (tCallS sp E t) := by
  obtain ⟨f, hm, kp, F⟩ := c.ex
  refine ⟨fun pins s σ H Q I h => wpAny_Call_Name_kw (ld_glob I hg hm ?_ hdb)⟩
  exact PySem.W.callWith_K (h₀ := X.base) I.ok.mod.kin kp (thn (ha.run pos pins s σ H _ I h) fun us s1 ⟨vs, H1, I1, r, q⟩ => ⟨I1.kIn, run_raw F (hr.mono hk) I1.env0 (hx σ) I1 r q⟩) he hpl
theorem pe_fc0 (c : Fnc X.prog X.w X.K X.mg X.base k x sp) (hr : Room n X.A) (hk : k ≤ n) (hg : Gl X x) (hx : ∀ σ, PassesAt (L2N.CX X.prog X.w) X σ (E σ))
    (hdb : (x == ("__debug__" : Str)) = false := by decide) : PE X (.Call (.Name x p) [] [] pos) (tCallS sp E tNil) := by
  obtain ⟨f, hm, kp, F⟩ := c.ex
  refine ⟨fun pins s σ H Q I h => wpAny_Call_Name_kw (ld_glob I hg hm ?_ hdb)⟩
  exact PySem.W.callWith_K0 I.kIn kp (run_raw (us := []) F (hr.mono hk) I.env0 (hx σ) I .nil h)
/-- o.m(..) -/
def tMtd (C : Addr) (m : Str) (sp : Sp) (E : St → XK) (ta : TE) (t : TA) : TE := fun σ H Q => ta σ H fun x H1 => ∃ a dx fs, x = .ref a ∧ H1 a = some (.ins C dx fs) ∧ fs.lookup m = none ∧ t σ H1 fun vs H2 => sp (.ref a :: vs) H2 Q (E σ)
theorem pe_me {pl : Sem Bool} (c : Mtd X.prog X.w X.K X.mg X.base k C m sp) (hr : Room n X.A) (hk : k ≤ n) (hx : ∀ σ, PassesAt (L2N.CX X.prog X.w) X σ (E σ)) (he : PE X o ta) (ha : PA X (e :: es) t)
    (hst : starEach (e :: es) X.env = (false, eval e X.env) :: starEach es X.env := by rfl) (hpl : (backTo pos (starEach es X.env)).any (·.1) = false := by rfl)
    (ht : eval (.Call (.Attribute o m apos) (e :: es) [] pos) X.env = (do
      let ov ← eval o X.env
      standAt apos.atName
      let (f, first) ← holding [ov] (getMethod ov m pl)
      callWith pos f first (backTo pos (starEach (e :: es) X.env)) (backToKw pos (keywordEach [] X.env))) := by rfl) :
    PE X (.Call (.Attribute o m apos) (e :: es) [] pos) (tMtd C m sp E ta t) := by
  obtain ⟨f, cl, hm, F⟩ := c.ex
  refine ⟨fun pins s σ H Q I h => PySem.W.methodCall_KW (pl := pl) (thn (he.run pins s σ H _ I h) fun u s1 ⟨x, H1, I1, rx, a, dx, fs, ex, ea, l, q⟩ => ?_) ht⟩
  subst ex
  cases (show u = Value.ref a from rx)
  refine getmeth_ok I1 ea cl hm l (PySem.W.callWith_K (first := [.ref a]) (h₀ := X.base) I.ok.mod.kin hm.kp (thn (ha.run pos pins s1 σ H1 _ I1 q) fun us s2 ⟨vs, H2, I2, r, q2⟩ => ⟨I2.kIn, ?_⟩) hst hpl)
  exact run_raw (us := .ref a :: us) (vs := .ref a :: vs) F (hr.mono hk) I2.env0 (hx σ) I2 (.cons (rel_ref a) r) q2
theorem pe_me0 {pl : Sem Bool} (c : Mtd X.prog X.w X.K X.mg X.base k C m sp) (hr : Room n X.A) (hk : k ≤ n) (hx : ∀ σ, PassesAt (L2N.CX X.prog X.w) X σ (E σ)) (he : PE X o ta)
    (ht : eval (.Call (.Attribute o m apos) [] [] pos) X.env = (do
      let ov ← eval o X.env
      standAt apos.atName
      let (f, first) ← holding [ov] (getMethod ov m pl)
      callWith pos f first (backTo pos (starEach [] X.env)) (backToKw pos (keywordEach [] X.env))) := by rfl) :
    PE X (.Call (.Attribute o m apos) [] [] pos) (tMtd C m sp E ta tNil) := by
  obtain ⟨f, cl, hm, F⟩ := c.ex
  refine ⟨fun pins s σ H Q I h => PySem.W.methodCall_KW (pl := pl) (thn (he.run pins s σ H _ I h) fun u s1 ⟨x, H1, I1, rx, a, dx, fs, ex, ea, l, q⟩ => ?_) ht⟩
  subst ex
  cases (show u = Value.ref a from rx)
  exact getmeth_ok I1 ea cl hm l (PySem.W.callWith_K0 (first := [.ref a]) I1.kIn hm.kp (run_raw (us := [.ref a]) (vs := [.ref a]) F (hr.mono hk) I1.env0 (hx σ) I1 (.cons (rel_ref a) .nil) q))
/-- C(..): a new instance and its dict, then __init__ -/
def tMkr (C : Addr) (sp : Sp) (E : St → XK) (t : TA) : TE := fun σ H Q => t σ H fun vs H1 =>
  ∀ y dx, H1 y = none → H1 dx = none → dx ≠ y → sp (.ref y :: vs) (upd (upd H1 dx (.own y)) y (.ins C dx [])) (fun v H2 => v = .non ∧ Q (.ref y) H2) (E σ)
theorem run_mkr {pins : List (Addr × Obj)} {σ : St} {H : Hp} {s : Shared} {f : Addr} {Q : VK} {us : List Value} {vs : List V} (M : Mk X.K C f) (F : FnR X.prog X.w X.K X.mg X.base (L2N.CX X.prog X.w) k f sp) (hr : Room (k + 1) X.A)
    (hx : PassesAt (L2N.CX X.prog X.w) X σ (E σ)) (I : Inv X pins σ H s) (r : Vals vs us)
    (h : ∀ y dx, H y = none → H dx = none → dx ≠ y → sp (.ref y :: vs) (upd (upd H dx (.own y)) y (.ins C dx [])) (fun v H2 => v = .non ∧ Q (.ref y) H2) (E σ)) :
    wpAny (model X.prog X.w) X.A (call (.ref C) us) (EP X pins σ Q) X.xe s := by
  have go := h (s.heap.objs.size + 1) s.heap.objs.size (I.hok.fresh (Nat.le_succ _)) (I.hok.fresh (Nat.le_refl _)) (Nat.ne_of_lt (Nat.lt_succ_self _))
  have J := Inv.made (C := C) I
  refine wpAny_call (make_map (f := f) I.kIn M.makes M.init (beq_iff_eq.mp M.fn) (codeAny_mono (F _ X.stack _ _ (.ref (s.heap.objs.size + 1) :: us) (.ref (s.heap.objs.size + 1) :: vs) _ (E σ) (hr.make C us []) (J.env0.make C us []) (.cons (rel_ref _) r) go) fun r s' z => ?_))
  cases r with
  | error e => exact hx pins _ _ e s' J z
  | ok fl =>
    cases fl with
    | ret u =>
      obtain ⟨v, H', J', rv, ev, q⟩ := J.after z
      subst ev
      exact ⟨rv, .ref (s.heap.objs.size + 1), H', J', rfl, q⟩
    | next => exact False.elim z
    | brk => exact False.elim z
    | cont => exact False.elim z
theorem pe_nw (c : Mkr X.prog X.w X.K X.mg X.base k x C sp) (hr : Room n X.A) (hk : k + 1 ≤ n) (hg : Gl X x) (hx : ∀ σ, PassesAt (L2N.CX X.prog X.w) X σ (E σ)) (ha : PA X (e :: es) t)
    (hdb : (x == ("__debug__" : Str)) = false := by decide) (he : starEach (e :: es) X.env = (false, eval e X.env) :: starEach es X.env := by rfl) (hpl : (backTo pos (starEach es X.env)).any (·.1) = false := by rfl) :
    PE X (.Call (.Name x p) (e :: es) [] pos) (tMkr C sp E t) := by
  obtain ⟨f, M, hm, F⟩ := c.ex
  refine ⟨fun pins s σ H Q I h => wpAny_Call_Name_kw (ld_glob I hg hm ?_ hdb)⟩
  exact PySem.W.callWith_K (h₀ := X.base) I.ok.mod.kin M.kp (thn (ha.run pos pins s σ H _ I h) fun us s1 ⟨vs, H1, I1, r, q⟩ => ⟨I1.kIn, run_mkr M F (hr.mono hk) (hx σ) I1 r q⟩) he hpl
theorem pe_nw0 (c : Mkr X.prog X.w X.K X.mg X.base k x C sp) (hr : Room n X.A) (hk : k + 1 ≤ n) (hg : Gl X x) (hx : ∀ σ, PassesAt (L2N.CX X.prog X.w) X σ (E σ))
    (hdb : (x == ("__debug__" : Str)) = false := by decide) : PE X (.Call (.Name x p) [] [] pos) (tMkr C sp E tNil) := by
  obtain ⟨f, M, hm, F⟩ := c.ex
  refine ⟨fun pins s σ H Q I h => wpAny_Call_Name_kw (ld_glob I hg hm ?_ hdb)⟩
  exact PySem.W.callWith_K0 I.kIn M.kp (run_mkr (us := []) M F (hr.mono hk) (hx σ) I .nil h)
/-- o.m, a property -/
def tPrp (C : Addr) (sp : Sp) (ta : TE) : TE := fun σ H Q => ta σ H fun x H1 => Ins H1 C x ∧ sp [x] H1 Q EF
theorem pe_pr (c : Prp X.prog X.w X.K X.mg X.base k C m sp) (hr : Room n X.A) (hk : k + 1 ≤ n) (he : PE X o ta) (hab : attributeBase o m X.env (eval o X.env) = eval o X.env := by rfl) : PE X (.Attribute o m pos) (tPrp C sp ta) := by
  obtain ⟨pa, g, cl, hp, F⟩ := c.ex
  refine ⟨fun pins s σ H Q I h => attr_of hab (thn (he.run pins s σ H _ I h) fun u s1 ⟨x, H1, I1, rx, hi, q⟩ => ?_)⟩
  obtain ⟨a, ox, od, rfl, rfl, J⟩ := hi.inst I1 rx
  obtain ⟨rest, hrec⟩ := hp.rec_
  obtain ⟨cd, hcd, _⟩ := PySem.W.any_some cl.hd
  have I2 := I1.tok (s1.toks + 1)
  refine PySem.W.get_bind I1.kIn J (PySem.W.plainGet_of (cl.get m)).1 (PySem.W.findObj_data (by rw [hcd]; rfl) hp.at_ hp.get hp.tak) (PySem.W.plainGet_of (cl.get m)).2 (wpAny_call (PySem.W.prop_get (s := { s1 with toks := s1.toks + 1 }) I1.kIn hrec ?_))
  refine codeAny_mono (F X.A.in1 X.stack { s1 with toks := s1.toks + 1 } H1 [.ref a] [.ref a] Q EF (hr.mono hk).in1 I2.env0.in1 (.cons (rel_ref a) .nil) q) fun r s' z => ?_
  cases r with
  | error er => exact (passN (X := X.nox) rfl rfl σ pins H1 _ er s' (I2.wish _) z).elim
  | ok fl =>
    cases fl with
    | ret u =>
      obtain ⟨v, H', I3, rv, q3⟩ := I2.after z
      show wpAny _ _ (handedOut u) _ _ _
      rw [PySem.W.handedOut_of (handed_of rv)]
      exact wpAny_pure ⟨v, H', I3, rv, q3⟩
    | next => exact False.elim z
    | brk => exact False.elim z
    | cont => exact False.elim z
end
theorem pi_lt {X : Cx} {tg e : Expr} {te : TE} (he : PE X e te) : PI X tg e (iLT X.K te) := by
  refine ⟨fun pins s σ H R I h => thn (he.run pins s σ H _ I h) fun v t z => ?_⟩
  obtain ⟨x, G, J, r, p, ex, w⟩ := z
  subst ex
  cases r
  have fp : ∀ b ∈ [t.heap.objs.size], FpOk X pins G b := fun b hb => by
    cases (show b = t.heap.objs.size by simpa using hb)
    exact J.fpOk (Nat.le_refl _) (J.hok.fresh (Nat.le_refl _))
  rcases w with ⟨⟨ys, hq⟩, q⟩ | ⟨⟨ys, hq⟩, q⟩
  · obtain ⟨its, rv, pl, hz⟩ := J.list hq
    exact wpAny_pyIter_list pl.isList ⟨t.heap.objs.size, [t.heap.objs.size], _, _, G, rfl, J.kept (t' := t.toks) fun b o w => Heap.get?_push_of_some _ w, turn_list p _, ⟨_, Heap.get?_push_size _ rfl, rfl, rfl⟩, fp, q⟩
  · obtain ⟨its, rv, pl, hz⟩ := J.tuple hq
    exact wpAny_pyIter_tuple (show t.heap.IsTuple p its.toArray from pl) ⟨t.heap.objs.size, [t.heap.objs.size], _, _, G, rfl, J.kept (t' := t.toks) fun b o w => Heap.get?_push_of_some _ w, turn_tuple p _, ⟨_, Heap.get?_push_size _ rfl, rfl, rfl⟩, fp, q⟩
theorem kpi_lt {X : Cx} (K : PySem.W.Frag) {tg e : Expr} {te : TE} (h : PE X e te) (hK : X.K = K := by rfl) : PI X tg e (iLT K te) := hK ▸ pi_lt h
theorem FnR.lift {P : Program} {w : World} {K : PySem.W.Frag} {mg : Str → Option Value} {base : Heap} {k : Nat} {f : Addr} {sp : Sp} (F : FnR P w K mg base C8.CX0 k f sp) : FnR P w K mg base (L2N.CX P w) k f sp := fun A outer s H us vs Q E hr e0 r h =>
  codeAny_mono (F A outer s H us vs Q E hr e0 r h) fun res s' z => by
    cases res with
    | error e => exact False.elim z
    | ok fl => cases fl <;> exact z
/-- a list (b) or a tuple -/
def SqB (K : PySem.W.Frag) (H : Hp) (b : Bool) (p : Addr) (ys : List V) : Prop := if b = true then SqL K H p ys else SqT K H p ys
theorem SqB.or {K : PySem.W.Frag} {H : Hp} {b : Bool} {p : Addr} {ys : List V} (h : SqB K H b p ys) : SqL K H p ys ∨ SqT K H p ys := by
  cases b with
  | true => exact .inl h
  | false => exact .inr h
/-- .. walked -/
def iSq (K : PySem.W.Frag) (te : TE) : TI := fun σ H R => te σ H fun x H1 => ∃ b p ys, x = .ref p ∧ SqB K H1 b p ys ∧ ∀ J, Walk J ys.length (fun G => SqB K G b p ys) (YAt ys) → R J H1
theorem pi_sq {X : Cx} {tg e : Expr} {te : TE} (he : PE X e te) : PI X tg e (iSq X.K te) := by
  have hm : PE X e (fun σ H Q => te σ H fun x H1 => Q x H1) := he
  refine ⟨fun pins s σ H R I h => ?_⟩
  have k : PE X e (fun σ' H' Q => te σ' H' fun x H1 => Q x H1) := he
  refine (pi_lt (X := X) (tg := tg) (e := e) (te := fun σ' H' Q => ∃ R', te σ' H' R' ∧ ∀ x H1, R' x H1 → Q x H1) ⟨fun pins s σ' H' Q I h => ?_⟩).run pins s σ H R I ⟨_, h, fun x H1 z => ?_⟩
  · obtain ⟨R', h1, h2⟩ := h
    exact wpAny_mono (he.run pins s σ' H' _ I h1) (fun v t z => by
      obtain ⟨x, G, J, r, q⟩ := z
      exact ⟨x, G, J, r, h2 x G q⟩) fun _ _ z => z
  · obtain ⟨b, p, ys, rfl, hs, go⟩ := z
    refine ⟨p, rfl, ?_⟩
    cases b with
    | true => exact .inl ⟨⟨ys, hs⟩, go _ walk_list⟩
    | false => exact .inr ⟨⟨ys, hs⟩, go _ walk_tup⟩
theorem kpi_sq {X : Cx} (K : PySem.W.Frag) {tg e : Expr} {te : TE} (h : PE X e te) (hK : X.K = K := by rfl) : PI X tg e (iSq K te) := hK ▸ pi_sq h
end L2

set_option Elab.async false
set_option linter.all false
set_option maxRecDepth 100000
set_option maxHeartbeats 4000000
/-! the layer of trees: values are trees D, changing objects stand in a row S by number; readings are exact -/
namespace A
open PySem PySem.Spec PyProof.Rows L2

inductive D where
  | non | bl (b : Bool) | int (i : Int) | str (x : Str) | tup (xs : List D) | lst (xs : List D)
  | obj (C : Str) (ns : List Str) (vs : List D) | ref (n : Nat) | ty (n : String) | cl (C : Str) | adr (a : Addr) | scr (ns : List Int)
/-- an object that may change -/
inductive O where
  | lst (xs : List D) | ins (C : Str) (fs : List (Str × D)) | dct (kvs : List (Str × D))
abbrev Sto := List O
/-- an error: its class, its fields -/
structure Exc where
  C : Str
  ns : List Str
  vs : List D
structure Cg where
  K : PySem.W.Frag
  cA : Str → Addr
structure Wd where
  R : Addr → Prop
  i : Nat → Addr
/-- the script as one of the module's own objects -/
def ScK (K : PySem.W.Frag) (a : Addr) (ns : List Int) : Prop := ∃ (o : Obj) (its : Array Value) (n : Nat), K.lookup a = some o ∧ o.cls = .type "list" ∧ o.dict = none ∧ o.data = .seq its n ∧ its.size ≤ sizeLine ∧ Vals (ns.map V.int) its.toList
theorem scr_sq {K : PySem.W.Frag} {H : Hp} {a : Addr} {ns : List Int} {p : Prop} (h : (Rd H a (.lst (ns.map V.int)) ∧ p) ∨ ScK K a ns) : SqL K H a (ns.map V.int) := h.elim (fun x => .inl x.1) .inr
mutual
inductive Rel (c : Cg) (w : Wd) (N : Nat) (H : Hp) : D → V → Prop
  | non : Rel c w N H .non .non
  | bl (b : Bool) : Rel c w N H (.bl b) (.bl b)
  | int (i : Int) : Rel c w N H (.int i) (.int i)
  | str (x : Str) : Rel c w N H (.str x) (.str x)
  | ty (n : String) : Rel c w N H (.ty n) (.ty n)
  | cl (C : Str) : Rel c w N H (.cl C) (.ref (c.cA C))
  | adr (a : Addr) : Rel c w N H (.adr a) (.ref a)
  | ref {n : Nat} (h : n < N) : Rel c w N H (.ref n) (.ref (w.i n))
  | tup {a : Addr} {xs : List D} {vs : List V} (h : SqT c.K H a vs) (hs : RelL c w N H xs vs) : Rel c w N H (.tup xs) (.ref a)
  | lst {a : Addr} {xs : List D} {vs : List V} (h : H a = some (.lst vs)) (r : ¬ w.R a) (hs : RelL c w N H xs vs) : Rel c w N H (.lst xs) (.ref a)
  | scr {a : Addr} {ns : List Int} (h : (Rd H a (.lst (ns.map V.int)) ∧ ¬ w.R a) ∨ ScK c.K a ns) : Rel c w N H (.scr ns) (.ref a)
  | obj {a dx : Addr} {C : Str} {ns : List Str} {ds : List D} {fs : List (Str × V)} (h : H a = some (.ins (c.cA C) dx fs)) (r : ¬ w.R a) (hn : fs.map (·.1) = ns) (hs : RelL c w N H ds (fs.map (·.2))) : Rel c w N H (.obj C ns ds) (.ref a)
inductive RelL (c : Cg) (w : Wd) (N : Nat) (H : Hp) : List D → List V → Prop
  | nil : RelL c w N H [] []
  | cons {d : D} {v : V} {ds : List D} {vs : List V} (h : Rel c w N H d v) (hs : RelL c w N H ds vs) : RelL c w N H (d :: ds) (v :: vs)
end
/-- what a step leaves -/
structure Stp (w : Wd) (N : Nat) (H : Hp) (w' : Wd) (N' : Nat) (H' : Hp) : Prop where
  le : N ≤ N'
  ids : ∀ n, n < N → w'.i n = w.i n
  new : ∀ n, N ≤ n → n < N' → H (w'.i n) = none
  up : ∀ a, w.R a → w'.R a
  res : ∀ a, w'.R a → w.R a ∨ H a = none
  fro : ∀ a o, H a = some o → ¬ w.R a → H' a = some o
  rsv : ∀ a o, H a = some o → w.R a → (∀ n, n < N → w.i n ≠ a) → H' a = some o
  dom : ∀ a o, H a = some o → ∃ o', H' a = some o'
  tups : ∀ a xs, Rd H a (.tup xs) → Rd H' a (.tup xs)
theorem Stp.refl {w : Wd} {N : Nat} {H : Hp} : Stp w N H w N H := ⟨Nat.le_refl _, fun _ _ => rfl, fun n h1 h2 => absurd h2 (by omega), fun _ h => h, fun _ h => .inl h, fun _ _ h _ => h, fun _ _ h _ _ => h, fun _ o h => ⟨o, h⟩, fun _ _ h => h⟩
theorem Stp.free {w w' : Wd} {N N' : Nat} {H H' : Hp} (s : Stp w N H w' N' H') {a : Addr} (h : H' a = none) : H a = none := by
  cases e : H a with
  | none => rfl
  | some o =>
    obtain ⟨o', e'⟩ := s.dom a o e
    rw [h] at e'; cases e'
theorem Stp.trans {w w1 w2 : Wd} {N N1 N2 : Nat} {H H1 H2 : Hp} (s : Stp w N H w1 N1 H1) (t : Stp w1 N1 H1 w2 N2 H2) : Stp w N H w2 N2 H2 := by
  refine ⟨Nat.le_trans s.le t.le, fun n hn => (t.ids n (Nat.lt_of_lt_of_le hn s.le)).trans (s.ids n hn), fun n h1 h2 => ?_, fun a h => t.up a (s.up a h), fun a h => ?_, fun a o e h => ?_, fun a o e h k => ?_, fun a o e => ?_, fun a xs h => t.tups a xs (s.tups a xs h)⟩
  · by_cases hn : n < N1
    · rw [t.ids n hn]; exact s.new n h1 hn
    · exact s.free (t.new n (by omega) h2)
  · rcases t.res a h with h | h
    · exact s.res a h
    · exact .inr (s.free h)
  · refine t.fro a o (s.fro a o e h) fun z => ?_
    rcases s.res a z with z | z
    · exact h z
    · rw [z] at e; cases e
  · refine t.rsv a o (s.rsv a o e h k) (s.up a h) fun n hn z => ?_
    by_cases h1 : n < N
    · rw [s.ids n h1] at z; exact k n h1 z
    · have q := s.new n (by omega) hn
      rw [z, e] at q; cases q
  · obtain ⟨o1, e1⟩ := s.dom a o e
    exact t.dom a o1 e1
/-- the part of a step that things of trees want -/
structure Stp0 (w : Wd) (N : Nat) (H : Hp) (w' : Wd) (N' : Nat) (H' : Hp) : Prop where
  le : N ≤ N'
  ids : ∀ n, n < N → w'.i n = w.i n
  res : ∀ a, w'.R a → w.R a ∨ H a = none
  fro : ∀ a o, H a = some o → ¬ w.R a → H' a = some o
  tups : ∀ a xs, Rd H a (.tup xs) → Rd H' a (.tup xs)
theorem Stp.to0 {w w' : Wd} {N N' : Nat} {H H' : Hp} (s : Stp w N H w' N' H') : Stp0 w N H w' N' H' := ⟨s.le, s.ids, s.res, s.fro, s.tups⟩
section
variable {c : Cg} {w w' : Wd} {N N' : Nat} {H H' : Hp}
theorem Rd.fro0 (s : Stp0 w N H w' N' H') {a : Addr} {u : HO} (h : Rd H a u) (r : ¬ w.R a) : Rd H' a u ∧ ¬ w'.R a := by
  have nz : ∀ o, H a = some o → ¬ w'.R a := fun o e z => by
    rcases s.res a z with z | z
    · exact r z
    · rw [z] at e; cases e
  rcases h with h | ⟨o, h⟩
  · exact ⟨.inl (s.fro _ _ h r), nz _ h⟩
  · exact ⟨.inr ⟨o, s.fro _ _ h r⟩, nz _ h⟩
theorem Rd.fro (s : Stp w N H w' N' H') {a : Addr} {u : HO} (h : Rd H a u) (r : ¬ w.R a) : Rd H' a u ∧ ¬ w'.R a := Rd.fro0 s.to0 h r
theorem SqT.stp0 (s : Stp0 w N H w' N' H') {a : Addr} {vs : List V} (h : SqT c.K H a vs) : SqT c.K H' a vs := h.elim (fun h => .inl (s.tups _ _ h)) .inr
mutual
theorem Rel.stp0 (s : Stp0 w N H w' N' H') : ∀ {d : D} {v : V}, Rel c w N H d v → Rel c w' N' H' d v
  | _, _, .non => .non
  | _, _, .bl b => .bl b
  | _, _, .int i => .int i
  | _, _, .str x => .str x
  | _, _, .ty n => .ty n
  | _, _, .cl C => .cl C
  | _, _, .adr a => .adr a
  | _, _, .ref (n := n) h => by
    rw [← s.ids n h]
    exact .ref (Nat.lt_of_lt_of_le h s.le)
  | _, _, .tup h hs => .tup (SqT.stp0 s h) (RelL.stp0 s hs)
  | _, _, .lst h r hs => .lst (s.fro _ _ h r) (Rd.fro0 s (.inl h) r).2 (RelL.stp0 s hs)
  | _, _, .scr h => .scr (h.imp (fun z => Rd.fro0 s z.1 z.2) fun z => z)
  | _, _, .obj h r hn hs => .obj (s.fro _ _ h r) (Rd.fro0 s (.inl h) r).2 hn (RelL.stp0 s hs)
theorem RelL.stp0 (s : Stp0 w N H w' N' H') : ∀ {ds : List D} {vs : List V}, RelL c w N H ds vs → RelL c w' N' H' ds vs
  | _, _, .nil => .nil
  | _, _, .cons h hs => .cons (Rel.stp0 s h) (RelL.stp0 s hs)
end
theorem Rel.stp (s : Stp w N H w' N' H') {d : D} {v : V} (h : Rel c w N H d v) : Rel c w' N' H' d v := h.stp0 s.to0
theorem RelL.stp (s : Stp w N H w' N' H') {ds : List D} {vs : List V} (h : RelL c w N H ds vs) : RelL c w' N' H' ds vs := h.stp0 s.to0
theorem RelL.len : ∀ {ds : List D} {vs : List V}, RelL c w N H ds vs → ds.length = vs.length
  | _, _, .nil => rfl
  | _, _, .cons _ hs => by simp [RelL.len hs]
theorem RelL.get : ∀ {ds : List D} {vs : List V} {i : Nat} {d : D}, RelL c w N H ds vs → ds[i]? = some d → ∃ v, vs[i]? = some v ∧ Rel c w N H d v
  | _, _, _, _, .nil, e => by simp at e
  | _, _, 0, _, .cons h _, e => by simp at e; subst e; exact ⟨_, rfl, h⟩
  | _, _, i + 1, d, .cons _ hs, e => by
    obtain ⟨v, h1, h2⟩ := RelL.get (i := i) (d := d) hs (by simpa using e)
    exact ⟨v, by simpa using h1, h2⟩
theorem RelL.getV : ∀ {ds : List D} {vs : List V} {i : Nat} {v : V}, RelL c w N H ds vs → vs[i]? = some v → ∃ d, ds[i]? = some d ∧ Rel c w N H d v
  | _, _, _, _, .nil, e => by simp at e
  | _, _, 0, _, .cons h _, e => by simp at e; subst e; exact ⟨_, rfl, h⟩
  | _, _, i + 1, v, .cons _ hs, e => by
    obtain ⟨d, h1, h2⟩ := RelL.getV (i := i) (v := v) hs (by simpa using e)
    exact ⟨d, by simpa using h1, h2⟩
theorem RelL.append : ∀ {ds es : List D} {vs ws : List V}, RelL c w N H ds vs → RelL c w N H es ws → RelL c w N H (ds ++ es) (vs ++ ws)
  | _, _, _, _, .nil, s => s
  | _, _, _, _, .cons h hs, s => .cons h (RelL.append hs s)
theorem RelL.set : ∀ {ds : List D} {vs : List V} {d : D} {v : V} (i : Nat), RelL c w N H ds vs → Rel c w N H d v → RelL c w N H (ds.set i d) (vs.set i v)
  | _, _, _, _, _, .nil, _ => .nil
  | _, _, _, _, 0, .cons _ hs, hv => .cons hv hs
  | _, _, _, _, i + 1, .cons h hs, hv => .cons h (RelL.set i hs hv)
theorem RelL.take : ∀ {ds : List D} {vs : List V} (n : Nat), RelL c w N H ds vs → RelL c w N H (ds.take n) (vs.take n)
  | _, _, 0, _ => .nil
  | _, _, _ + 1, .nil => .nil
  | _, _, n + 1, .cons h hs => .cons h (RelL.take n hs)
theorem RelL.drop : ∀ {ds : List D} {vs : List V} (n : Nat), RelL c w N H ds vs → RelL c w N H (ds.drop n) (vs.drop n)
  | _, _, 0, h => h
  | _, _, _ + 1, .nil => .nil
  | _, _, n + 1, .cons _ hs => RelL.drop n hs
end
/-- an object of the row, at its address -/
def RelO (c : Cg) (w : Wd) (N : Nat) (H : Hp) : O → Addr → Prop
  | .lst xs, a => ∃ vs, H a = some (.lst vs) ∧ RelL c w N H xs vs
  | .ins C fs, a => ∃ dx fs', H a = some (.ins (c.cA C) dx fs') ∧ fs'.map (·.1) = fs.map (·.1) ∧ RelL c w N H (fs.map (·.2)) (fs'.map (·.2))
  | .dct kvs, a => ∃ kvs', H a = some (.dK kvs') ∧ kvs'.map (·.1) = kvs.map (fun p => Sum.inr p.1) ∧ RelL c w N H (kvs.map (·.2)) (kvs'.map (·.2))
structure Wf (c : Cg) (w : Wd) (S : Sto) (H : Hp) : Prop where
  res : ∀ n, n < S.length → w.R (w.i n)
  held : ∀ a, w.R a → ∃ o, H a = some o
  inj : ∀ n m, n < S.length → m < S.length → w.i n = w.i m → n = m
  obj : ∀ n o, S[n]? = some o → RelO c w S.length H o (w.i n)
theorem RelO.isAt {c : Cg} {w : Wd} {N : Nat} {H : Hp} {o : O} {a : Addr} (h : RelO c w N H o a) : ∃ ho, H a = some ho ∧ (∀ xs, ho ≠ .tup xs) ∧ ∀ q xs, ho ≠ .frz q (.tup xs) := by
  cases o with
  | lst xs => obtain ⟨vs, e, _⟩ := h; exact ⟨_, e, (fun _ z => by cases z), (fun _ _ z => by cases z)⟩
  | ins C fs => obtain ⟨dx, fs', e, _⟩ := h; exact ⟨_, e, (fun _ z => by cases z), (fun _ _ z => by cases z)⟩
  | dct kvs => obtain ⟨kvs', e, _⟩ := h; exact ⟨_, e, (fun _ z => by cases z), (fun _ _ z => by cases z)⟩
theorem Wf.fresh {c : Cg} {w : Wd} {S : Sto} {H : Hp} (f : Wf c w S H) {p : Addr} (h : H p = none) : ¬ w.R p := fun z => by
  obtain ⟨o, e⟩ := f.held p z
  rw [h] at e; cases e
theorem RelO.at {c : Cg} {w w' : Wd} {N N' : Nat} {H H' : Hp} (s : Stp w N H w' N' H') {o : O} {a : Addr} (h : RelO c w N H o a) (e : ∀ x, H a = some x → H' a = some x) : RelO c w' N' H' o a := by
  cases o with
  | lst xs => obtain ⟨vs, h1, h2⟩ := h; exact ⟨vs, e _ h1, h2.stp s⟩
  | ins C fs => obtain ⟨dx, fs', h1, h2, h3⟩ := h; exact ⟨dx, fs', e _ h1, h2, h3.stp s⟩
  | dct kvs => obtain ⟨kvs', h1, h2, h3⟩ := h; exact ⟨kvs', e _ h1, h2, h3.stp s⟩
theorem RelO.at0 {c : Cg} {w w' : Wd} {N N' : Nat} {H H' : Hp} (s : Stp0 w N H w' N' H') {o : O} {a : Addr} (h : RelO c w N H o a) (e : ∀ x, H a = some x → H' a = some x) : RelO c w' N' H' o a := by
  cases o with
  | lst xs => obtain ⟨vs, h1, h2⟩ := h; exact ⟨vs, e _ h1, h2.stp0 s⟩
  | ins C fs => obtain ⟨dx, fs', h1, h2, h3⟩ := h; exact ⟨dx, fs', e _ h1, h2, h3.stp0 s⟩
  | dct kvs => obtain ⟨kvs', h1, h2, h3⟩ := h; exact ⟨kvs', e _ h1, h2, h3.stp0 s⟩
/-- an address that one keeps for oneself changes -/
theorem Stp0.mine {w : Wd} {N : Nat} {H : Hp} {p : Addr} {o' : HO} {o : List V} (hR : w.R p) (h : H p = some (.lst o)) : Stp0 w N H w N (upd H p o') := by
  refine ⟨Nat.le_refl _, fun _ _ => rfl, fun _ h => .inl h, fun a u e r => by rw [upd_ne (fun (z : a = p) => r (by rw [z]; exact hR))]; exact e, fun a xs hx => ?_⟩
  have z : a ≠ p := fun z => by subst z; rcases hx with hx | ⟨q, hx⟩ <;> rw [h] at hx <;> cases hx
  rcases hx with hx | ⟨q, hx⟩
  · exact .inl (by rw [upd_ne z]; exact hx)
  · exact .inr ⟨q, by rw [upd_ne z]; exact hx⟩
theorem Wf.mine {c : Cg} {w : Wd} {S : Sto} {H : Hp} {p : Addr} {o' : HO} {vs : List V} (f : Wf c w S H) (hR : w.R p) (h : H p = some (.lst vs)) (ni : ∀ n, n < S.length → w.i n ≠ p) : Wf c w S (upd H p o') := by
  refine ⟨f.res, fun a ha => ?_, f.inj, fun n o e => ?_⟩
  · by_cases z : a = p
    · subst z; exact ⟨_, upd_same⟩
    · obtain ⟨u, e⟩ := f.held a ha
      exact ⟨u, by rw [upd_ne z]; exact e⟩
  · have hn : n < S.length := (List.getElem?_eq_some_iff.mp e).1
    exact RelO.at0 (Stp0.mine hR h) (f.obj n o e) fun x hx => by rw [upd_ne (ni n hn)]; exact hx
/-- an object that H does not know changes -/
theorem Stp.mut {w w' : Wd} {N N' : Nat} {H H' : Hp} {p : Addr} {o : HO} (s : Stp w N H w' N' H') (hp : H p = none) : Stp w N H w' N' (upd H' p o) := by
  have k : ∀ a u x, H a = some u → H' a = some x → upd H' p o a = some x := fun a u x e e' => by rw [upd_ne (ne_of_none e hp)]; exact e'
  refine ⟨s.le, s.ids, s.new, s.up, s.res, fun a u e h => k a u u e (s.fro a u e h), fun a u e h z => k a u u e (s.rsv a u e h z), fun a u e => ?_, fun a xs h => ?_⟩
  · obtain ⟨u', e'⟩ := s.dom a u e
    exact ⟨u', k a u u' e e'⟩
  · have ne : a ≠ p := fun z => by subst z; rcases h with h | ⟨q, h⟩ <;> rw [hp] at h <;> cases h
    rcases s.tups a xs h with h' | ⟨q, h'⟩
    · exact .inl (by rw [upd_ne ne]; exact h')
    · exact .inr ⟨q, by rw [upd_ne ne]; exact h'⟩
section
variable {c : Cg} {w w' : Wd} {S : Sto} {H : Hp}
/-- a new object that nobody changes -/
theorem Stp.alloc {N : Nat} {p : Addr} (hp : H p = none) (o : HO) : Stp w N H w N (upd H p o) := by
  have k : ∀ a u, H a = some u → upd H p o a = some u := fun a u e => by rw [upd_ne (ne_of_none e hp)]; exact e
  refine ⟨Nat.le_refl _, fun _ _ => rfl, fun n h1 h2 => absurd h2 (by omega), fun _ h => h, fun _ h => .inl h, fun a u e _ => k a u e, fun a u e _ _ => k a u e, fun a u e => ⟨u, k a u e⟩, fun a xs h => ?_⟩
  rcases h with h | ⟨q, h⟩
  · exact .inl (k _ _ h)
  · exact .inr ⟨q, k _ _ h⟩
theorem Stp.same {N : Nat} {H' : Hp} (g : Same H H') : Stp w N H w N H' :=
  ⟨Nat.le_refl _, fun _ _ => rfl, fun n h1 h2 => absurd h2 (by omega), fun _ h => h, fun _ h => .inl h, fun a u e _ => g a u e, fun a u e _ _ => g a u e, fun a u e => ⟨u, g a u e⟩, fun a xs h => h.elim (fun h => .inl (g _ _ h)) fun ⟨q, h⟩ => .inr ⟨q, g _ _ h⟩⟩
theorem Wf.same {H' : Hp} (f : Wf c w S H) (g : Same H H') : Wf c w S H' :=
  ⟨f.res, (fun a h => (f.held a h).imp fun o e => g a o e), f.inj, fun n o e => RelO.at (h := f.obj n o e) (Stp.same g) fun x h => g _ _ h⟩
theorem Wf.alloc (f : Wf c w S H) {p : Addr} (hp : H p = none) (o : HO) : Wf c w S (upd H p o) := f.same (same_new hp o)
/-- an address that is kept for oneself -/
def Wd.hold (w : Wd) (p : Addr) : Wd := { w with R := fun a => w.R a ∨ a = p }
theorem Stp.hold {N : Nat} {p : Addr} (hp : H p = none) (o : HO) : Stp w N H (w.hold p) N (upd H p o) := by
  have s := Stp.alloc (w := w) (N := N) hp o
  exact ⟨s.le, s.ids, s.new, fun _ h => .inl h, fun a h => h.elim .inl fun e => .inr (e ▸ hp), s.fro, s.rsv, s.dom, s.tups⟩
theorem Wf.hold (f : Wf c w S H) {p : Addr} (hp : H p = none) (o : HO) : Wf c (w.hold p) S (upd H p o) :=
  ⟨fun n hn => .inl (f.res n hn), (fun a h => h.elim (fun h => (f.held a h).imp fun u e => by rw [upd_ne (ne_of_none e hp)]; exact e) fun e => ⟨o, by rw [e]; exact upd_same⟩), f.inj, fun n u e => RelO.at (h := f.obj n u e) (Stp.hold hp o) fun x h => by rw [upd_ne (ne_of_none h hp)]; exact h⟩
/-- a new object of the row -/
def Wd.push (w : Wd) (N : Nat) (p : Addr) : Wd := ⟨fun a => w.R a ∨ a = p, fun n => if n = N then p else w.i n⟩
theorem Stp.push {N : Nat} {p : Addr} {H' : Hp} (hp : H p = none) (g : Same H H') : Stp w N H (w.push N p) (N + 1) H' := by
  have s := Stp.same (w := w) (N := N) g
  refine ⟨Nat.le_succ _, fun n hn => if_neg (Nat.ne_of_lt hn), fun n h1 h2 => ?_, fun _ h => .inl h, fun a h => h.elim .inl fun e => .inr (e ▸ hp), s.fro, s.rsv, s.dom, s.tups⟩
  have e : n = N := by omega
  subst e
  show H (if n = n then p else w.i n) = none
  rw [if_pos rfl]; exact hp
theorem Wf.push {H' : Hp} (f : Wf c w S H) {p : Addr} (hp : H p = none) (g : Same H H') {o : O} (ho : RelO c (w.push S.length p) (S.length + 1) H' o p) : Wf c (w.push S.length p) (S ++ [o]) H' := by
  have len : (S ++ [o]).length = S.length + 1 := by simp
  have old : ∀ n, n < S.length → (w.push S.length p).i n = w.i n := fun n hn => if_neg (Nat.ne_of_lt hn)
  have nw : (w.push S.length p).i S.length = p := if_pos rfl
  have ne : ∀ n, n < S.length → w.i n ≠ p := fun n hn z => by
    obtain ⟨ho, e, _⟩ := RelO.isAt (f.obj n S[n] (by simp))
    rw [z, hp] at e; cases e
  have sp : ∀ n, n < S.length + 1 → n = S.length ∨ n < S.length := fun n h => by omega
  refine ⟨fun n hn => ?_, (fun a h => h.elim (fun h => (f.held a h).imp fun u e => g a u e) fun e => by obtain ⟨x, hx, _⟩ := RelO.isAt ho; exact ⟨x, by rw [e]; exact hx⟩), fun n m hn hm e => ?_, fun n u e => ?_⟩
  · rw [len] at hn
    rcases sp n hn with rfl | hn
    · rw [nw]; exact .inr rfl
    · rw [old n hn]; exact .inl (f.res n hn)
  · rw [len] at hn hm
    rcases sp n hn with rfl | hn
    · rcases sp m hm with rfl | hm
      · rfl
      · rw [nw, old m hm] at e; exact absurd e.symm (ne m hm)
    · rcases sp m hm with rfl | hm
      · rw [nw, old n hn] at e; exact absurd e (ne n hn)
      · rw [old n hn, old m hm] at e; exact f.inj n m hn hm e
  · rw [len]
    have hn : n < S.length + 1 := by rw [← len]; exact (List.getElem?_eq_some_iff.mp e).1
    rcases sp n hn with rfl | hn
    · have z : u = o := by simpa using e.symm
      subst z
      rw [nw]; exact ho
    · rw [old n hn]
      rw [List.getElem?_append_left hn] at e
      exact RelO.at (h := f.obj n u e) (Stp.push hp g) fun x h => g _ _ h
/-- an object of the row changes -/
theorem Stp.set (f : Wf c w S H) {n : Nat} (hn : n < S.length) (ho : HO) : Stp w S.length H w S.length (upd H (w.i n) ho) := by
  have k : ∀ a u, H a = some u → a ≠ w.i n → upd H (w.i n) ho a = some u := fun a u e h => by rw [upd_ne h]; exact e
  refine ⟨Nat.le_refl _, fun _ _ => rfl, fun n h1 h2 => absurd h2 (by omega), fun _ h => h, fun _ h => .inl h, fun a u e h => k a u e fun z => h (z ▸ f.res n hn), fun a u e _ h => k a u e fun z => h n hn z.symm, fun a u e => ?_, fun a xs h => ?_⟩
  · by_cases z : a = w.i n
    · subst z; exact ⟨ho, upd_same⟩
    · exact ⟨u, k a u e z⟩
  · obtain ⟨hx, e, n1, n2⟩ := RelO.isAt (f.obj n S[n] (by simp))
    have z : a ≠ w.i n := fun z => by
      subst z
      rcases h with h | ⟨q, h⟩ <;> rw [e] at h <;> cases h
      · exact n1 _ rfl
      · exact n2 _ _ rfl
    rcases h with h | ⟨q, h⟩
    · exact .inl (k _ _ h z)
    · exact .inr ⟨q, k _ _ h z⟩
theorem Wf.set (f : Wf c w S H) {n : Nat} (hn : n < S.length) {ho : HO} {o : O} (r : RelO c w S.length (upd H (w.i n) ho) o (w.i n)) : Wf c w (S.set n o) (upd H (w.i n) ho) := by
  refine ⟨fun m hm => f.res m (by simpa using hm), (fun a h => (f.held a h).elim fun u e => (Stp.set f hn ho).dom a u e), fun m k hm hk => f.inj m k (by simpa using hm) (by simpa using hk), fun m u e => ?_⟩
  rw [List.length_set]
  rw [List.getElem?_set] at e
  by_cases z : n = m
  · subst z
    rw [if_pos rfl, if_pos hn] at e
    cases e
    exact r
  · rw [if_neg z] at e
    have hm : m < S.length := (List.getElem?_eq_some_iff.mp e).1
    exact RelO.at (h := f.obj m u e) (Stp.set f hn ho) fun x h => by rw [upd_ne (fun q => z (f.inj n m hn hm q.symm))]; exact h
end
/-! ### readings -/
abbrev Ev := List (Option D)
def RelE (c : Cg) (w : Wd) (N : Nat) (H : Hp) (ρ : Ev) (σ : L2.St) : Prop := ρ.length = σ.length ∧ ∀ (i : Nat) (d : D), ρ[i]? = some (some d) → ∃ v, σ[i]? = some (some v) ∧ Rel c w N H d v
def RelX (c : Cg) (w : Wd) (N : Nat) (H : Hp) (x : Exc) (cls : Value) (d : Option Addr) : Prop := cls = .ref (c.cA x.C) ∧
  match d with
  | none => x.ns = [] ∧ x.vs = []
  | some dd => ∃ fs, H dd = some (.xd fs) ∧ ¬ w.R dd ∧ fs.map (·.1) = x.ns ∧ RelL c w N H x.vs (fs.map (·.2))
abbrev Gx := Option (Exc × Value × Option Addr)
def RelG (c : Cg) (w : Wd) (N : Nat) (H : Hp) : Gx → Prop
  | none => True
  | some (x, cls, d) => RelX c w N H x cls d
structure Sta (c : Cg) (g : Gx) (w : Wd) (ρ : Ev) (S : Sto) (σ : L2.St) (H : Hp) : Prop where
  wf : Wf c w S H
  ev : RelE c w S.length H ρ σ
  gx : RelG c w S.length H g
section
variable {c : Cg} {g : Gx} {w w' : Wd} {ρ : Ev} {S S' : Sto} {σ : L2.St} {H H' : Hp} {N N' : Nat}
theorem RelE.stp (s : Stp w N H w' N' H') (h : RelE c w N H ρ σ) : RelE c w' N' H' ρ σ := ⟨h.1, fun i d e => by
  obtain ⟨v, h1, h2⟩ := h.2 i d e
  exact ⟨v, h1, h2.stp s⟩⟩
theorem RelX.stp (s : Stp w N H w' N' H') {x : Exc} {cls : Value} {d : Option Addr} (h : RelX c w N H x cls d) : RelX c w' N' H' x cls d := by
  refine ⟨h.1, ?_⟩
  have h2 := h.2
  cases d with
  | none => exact h2
  | some dd =>
    obtain ⟨fs, e, r, hn, hs⟩ := h2
    exact ⟨fs, s.fro _ _ e r, (Rd.fro s (.inl e) r).2, hn, hs.stp s⟩
theorem RelG.stp (s : Stp w N H w' N' H') (h : RelG c w N H g) : RelG c w' N' H' g := by
  cases g with
  | none => trivial
  | some x => obtain ⟨x, cls, d⟩ := x; exact RelX.stp s h
theorem Sta.step (st : Sta c g w ρ S σ H) (s : Stp w S.length H w' S'.length H') (f : Wf c w' S' H') : Sta c g w' ρ S' σ H' := ⟨f, st.ev.stp s, st.gx.stp s⟩
theorem RelE.set (h : RelE c w N H ρ σ) {i : Nat} {d : D} {v : V} (r : Rel c w N H d v) : RelE c w N H (ρ.set i (some d)) (σ.set i (some v)) := by
  refine ⟨by simp [h.1], fun j e he => ?_⟩
  rw [List.getElem?_set] at he ⊢
  by_cases z : i = j
  · subst z
    rw [if_pos rfl] at he ⊢
    by_cases l : i < ρ.length
    · rw [if_pos l] at he
      cases he
      rw [if_pos (h.1 ▸ l)]
      exact ⟨v, rfl, r⟩
    · rw [if_neg l] at he; cases he
  · rw [if_neg z] at he ⊢
    exact h.2 j e he
theorem RelE.unset (h : RelE c w N H ρ σ) {i : Nat} : RelE c w N H (ρ.set i none) (σ.set i none) := by
  refine ⟨by simp [h.1], fun j e he => ?_⟩
  rw [List.getElem?_set] at he ⊢
  by_cases z : i = j
  · subst z
    rw [if_pos rfl] at he
    split at he <;> cases he
  · rw [if_neg z] at he ⊢
    exact h.2 j e he
end
abbrev XQ := Exc → Sto → Prop
abbrev AM (α : Type) := Ev → Sto → (α → Sto → Prop) → XQ → Prop
def aBind {α β : Type} (t : AM α) (f : α → AM β) : AM β := fun ρ S Q E => t ρ S (fun a S1 => f a ρ S1 Q E) E
section
variable {α β γ δ : Type} {c : Cg} {g : Gx} {W : WX}
def upW (c : Cg) (W : WX) (r : Wd → Nat → Hp → α → β → Prop) (t : AM α) (w : Wd) (ρ : Ev) (S : Sto) (σ : L2.St) (H : Hp) (Q : β → Hp → Prop) : Prop :=
  ∃ (Q' : α → Sto → Prop) (E' : XQ), t ρ S Q' E' ∧ (∀ w' S' H' a b, Stp w S.length H w' S'.length H' → Wf c w' S' H' → r w' S'.length H' a b → Q' a S' → Q b H') ∧
    ∀ w' S' H' x cls d, Stp w S.length H w' S'.length H' → Wf c w' S' H' → RelX c w' S'.length H' x cls d → E' x S' → W cls d σ H'
def up (c : Cg) (g : Gx) (W : WX) (r : Wd → Nat → Hp → α → β → Prop) (t : AM α) : L2.St → Hp → (β → Hp → Prop) → Prop := fun σ H Q =>
  ∃ w ρ S, Sta c g w ρ S σ H ∧ upW c W r t w ρ S σ H Q
variable {r : Wd → Nat → Hp → α → β → Prop} {r2 : Wd → Nat → Hp → γ → δ → Prop} {t : AM α} {f : α → AM γ} {w : Wd} {ρ : Ev} {S : Sto} {σ : L2.St} {H : Hp} {Q : δ → Hp → Prop}
theorem upW.mono {Q Q' : β → Hp → Prop} (h : upW c W r t w ρ S σ H Q) (k : ∀ b H, Q b H → Q' b H) : upW c W r t w ρ S σ H Q' := by
  obtain ⟨Q1, E1, ht, hq, he⟩ := h
  exact ⟨Q1, E1, ht, fun w' S' H' a b s f r z => k _ _ (hq w' S' H' a b s f r z), he⟩
theorem up.mono {Q Q' : β → Hp → Prop} (h : up c g W r t σ H Q) (k : ∀ b H, Q b H → Q' b H) : up c g W r t σ H Q' := by
  obtain ⟨w, ρ, S, st, h⟩ := h
  exact ⟨w, ρ, S, st, h.mono k⟩
theorem upW.bind (st : Sta c g w ρ S σ H) (h : upW c W r2 (aBind t f) w ρ S σ H Q) :
    up c g W r t σ H (fun b H1 => ∃ w1 S1 a, Sta c g w1 ρ S1 σ H1 ∧ Stp w S.length H w1 S1.length H1 ∧ r w1 S1.length H1 a b ∧ upW c W r2 (f a) w1 ρ S1 σ H1 Q) := by
  obtain ⟨Q', E', ht, hq, he⟩ := h
  refine ⟨w, ρ, S, st, fun a S1 => f a ρ S1 Q' E', E', ht, fun w1 S1 H1 a b s1 f1 r1 hf => ?_, he⟩
  exact ⟨w1, S1, a, st.step s1 f1, s1, r1, Q', E', hf, fun w' S' H' a b s f r z => hq w' S' H' a b (s1.trans s) f r z, fun w' S' H' x cls d s f r z => he w' S' H' x cls d (s1.trans s) f r z⟩
end
end A

set_option Elab.async false
set_option linter.all false
set_option maxRecDepth 100000
set_option maxHeartbeats 4000000
namespace A
open PySem PySem.Spec PyProof.Rows L2
/-! ### views -/
def opt {α : Type} : Option α → (α → Prop) → Prop
  | some a, f => f a
  | none, _ => False
def asI : D → Option Int
  | .int i => some i
  | _ => none
def asB : D → Option Bool
  | .bl b => some b
  | _ => none
def asS : D → Option Str
  | .str x => some x
  | _ => none
def asT : D → Option (List D)
  | .tup xs => some xs
  | _ => none
/-- a list that is tracked -/
def lv (S : Sto) : D → Option (List D)
  | .lst xs => some xs
  | .ref n => match S[n]? with
    | some (.lst xs) => some xs
    | _ => none
  | _ => none
/-- a list, a tuple, the script -/
def sv (S : Sto) : D → Option (List D)
  | .lst xs => some xs
  | .tup xs => some xs
  | .scr ns => some (ns.map D.int)
  | .ref n => match S[n]? with
    | some (.lst xs) => some xs
    | _ => none
  | _ => none
def big : Nat := 16000000
theorem big_le {n : Nat} (h : n ≤ big) : n ≤ sizeLine := Nat.le_trans h (by decide)
theorem big_lt {n : Nat} (h : n < big) : n < sizeLine := Nat.lt_of_lt_of_le h (by decide)
theorem opt_some {α : Type} {o : Option α} {f : α → Prop} (h : opt o f) : ∃ a, o = some a ∧ f a := by
  cases o with
  | none => exact h.elim
  | some a => exact ⟨a, rfl, h⟩
section
variable {c : Cg} {w : Wd} {S : Sto} {N : Nat} {H : Hp} {d : D} {x : V}
theorem asI_rel {i : Int} (h : asI d = some i) (r : Rel c w N H d x) : d = .int i ∧ x = .int i := by
  cases d <;> simp [asI] at h
  subst h; cases r; exact ⟨rfl, rfl⟩
theorem asB_rel {b : Bool} (h : asB d = some b) (r : Rel c w N H d x) : d = .bl b ∧ x = .bl b := by
  cases d <;> simp [asB] at h
  subst h; cases r; exact ⟨rfl, rfl⟩
theorem asS_rel {z : Str} (h : asS d = some z) (r : Rel c w N H d x) : d = .str z ∧ x = .str z := by
  cases d <;> simp [asS] at h
  subst h; cases r; exact ⟨rfl, rfl⟩
theorem asT_rel {xs : List D} (h : asT d = some xs) (r : Rel c w N H d x) : ∃ a vs, x = .ref a ∧ SqT c.K H a vs ∧ RelL c w N H xs vs := by
  cases d <;> simp [asT] at h
  subst h
  cases r with
  | tup h hs => exact ⟨_, _, rfl, h, hs⟩
theorem lv_rel (f : Wf c w S H) {xs : List D} (h : lv S d = some xs) (r : Rel c w S.length H d x) : ∃ a vs, x = .ref a ∧ H a = some (.lst vs) ∧ RelL c w S.length H xs vs := by
  cases r with
  | lst h1 h2 h3 => simp [lv] at h; subst h; exact ⟨_, _, rfl, h1, h3⟩
  | @ref n hn =>
    simp only [lv] at h
    cases e : S[n]? with
    | none => rw [e] at h; cases h
    | some o =>
      rw [e] at h
      cases o with
      | lst ys =>
        cases h
        obtain ⟨vs, h1, h2⟩ := f.obj n _ e
        exact ⟨_, vs, rfl, h1, h2⟩
      | ins C fs => cases h
      | dct kvs => cases h
  | _ => simp [lv] at h
theorem sv_rel (f : Wf c w S H) {xs : List D} (h : sv S d = some xs) (r : Rel c w S.length H d x) : ∃ a vs, x = .ref a ∧ (SqL c.K H a vs ∨ SqT c.K H a vs) ∧ RelL c w S.length H xs vs := by
  cases r with
  | lst h1 h2 h3 => simp [sv] at h; subst h; exact ⟨_, _, rfl, .inl (SqL.of h1), h3⟩
  | tup h1 h3 => simp [sv] at h; subst h; exact ⟨_, _, rfl, .inr h1, h3⟩
  | @scr a ns h1 =>
    simp [sv] at h; subst h
    refine ⟨_, _, rfl, .inl (scr_sq h1), ?_⟩
    clear h1
    induction ns with
    | nil => exact .nil
    | cons n ns ih => exact .cons (.int n) ih
  | @ref n hn =>
    simp only [sv] at h
    cases e : S[n]? with
    | none => rw [e] at h; cases h
    | some o =>
      rw [e] at h
      cases o with
      | lst ys =>
        cases h
        obtain ⟨vs, h1, h2⟩ := f.obj n _ e
        exact ⟨_, vs, rfl, .inl (SqL.of h1), h2⟩
      | ins C fs => cases h
      | dct kvs => cases h
  | _ => simp [sv] at h
/-- all are intsD, boolsD -/
def intsD : List D → Option (List Int)
  | [] => some []
  | .int i :: r => (intsD r).map (i :: ·)
  | _ :: _ => none
def boolsD : List D → Option (List Bool)
  | [] => some []
  | .bl b :: r => (boolsD r).map (b :: ·)
  | _ :: _ => none
theorem ints_rel : ∀ {ds : List D} {vs : List V} {ns : List Int}, intsD ds = some ns → RelL c w N H ds vs → vs = ns.map V.int
  | _, _, _, h, .nil => by simp [intsD] at h; subst h; rfl
  | d :: ds, v :: vs, ns, h, .cons r rs => by
    cases d <;> simp [intsD] at h
    obtain ⟨ms, h1, rfl⟩ := h
    cases r
    rw [ints_rel h1 rs]
    rfl
theorem bools_rel : ∀ {ds : List D} {vs : List V} {ns : List Bool}, boolsD ds = some ns → RelL c w N H ds vs → vs = ns.map V.bl
  | _, _, _, h, .nil => by simp [boolsD] at h; subst h; rfl
  | d :: ds, v :: vs, ns, h, .cons r rs => by
    cases d <;> simp [boolsD] at h
    obtain ⟨ms, h1, rfl⟩ := h
    cases r
    rw [bools_rel h1 rs]
    rfl
theorem ints_map : ∀ (ns : List Int), intsD (ns.map D.int) = some ns
  | [] => rfl
  | n :: ns => by simp [intsD, ints_map ns]
theorem bools_map : ∀ (ns : List Bool), boolsD (ns.map D.bl) = some ns
  | [] => rfl
  | n :: ns => by simp [boolsD, bools_map ns]
end
/-! ### data -/
mutual
def pd : D → PyData
  | .non => .none
  | .bl b => .bool b
  | .int i => .int i
  | .str x => .str x
  | .tup xs => .tuple (pds xs)
  | .lst xs => .list (pds xs)
  | _ => .none
def pds : List D → List PyData
  | [] => []
  | d :: r => pd d :: pds r
end
mutual
def isPd : D → Bool
  | .non => true
  | .bl _ => true
  | .int _ => true
  | .str _ => true
  | .tup xs => isPds xs
  | .lst xs => isPds xs
  | _ => false
def isPds : List D → Bool
  | [] => true
  | d :: r => isPd d && isPds r
end
/-- data that can be held against each other -/
def dat (d : D) : Bool := isPd d && SeqAt.shaped (pd d)
def eqD (d e : D) : Bool := PyData.eqv (pd d) (pd e)
section
variable {c : Cg} {w : Wd} {N : Nat} {H : Hp}
mutual
theorem Rel.dp : ∀ {d : D} {v : V}, isPd d = true → Rel c w N H d v → Dp c.K H v (pd d)
  | _, _, _, .non => .non
  | _, _, _, .bl b => .bl b
  | _, _, _, .int i => .int i
  | _, _, _, .str x => .str x
  | .tup xs, _, h, .tup h1 hs => .tup h1 (RelL.dp (by simpa [isPd] using h) hs)
  | .lst xs, _, h, .lst h1 _ hs => .lst (SqL.of h1) (RelL.dp (by simpa [isPd] using h) hs)
  | .obj _ _ _, _, h, _ => by simp [isPd] at h
  | .ref _, _, h, _ => by simp [isPd] at h
  | .ty _, _, h, _ => by simp [isPd] at h
  | .cl _, _, h, _ => by simp [isPd] at h
  | .adr _, _, h, _ => by simp [isPd] at h
  | .scr _, _, h, _ => by simp [isPd] at h
theorem RelL.dp : ∀ {ds : List D} {vs : List V}, isPds ds = true → RelL c w N H ds vs → DpAll c.K H vs (pds ds)
  | _, _, _, .nil => .nil
  | d :: ds, _, h, .cons r rs => by
    have h' : isPd d = true ∧ isPds ds = true := by simpa [isPds] using h
    exact .cons (Rel.dp h'.1 r) (RelL.dp h'.2 rs)
end
end
/-- a list of the row, as it is now -/
def rd (S : Sto) : D → D
  | .ref n => match S[n]? with
    | some (.lst xs) => .lst xs
    | _ => .ref n
  | d => d
theorem rd_dp {c : Cg} {w : Wd} {S : Sto} {H : Hp} {d : D} {v : V} (f : Wf c w S H) (r : Rel c w S.length H d v) (h : isPd (rd S d) = true) : Dp c.K H v (pd (rd S d)) := by
  cases d with
  | ref n =>
    cases r with
    | ref hn =>
      simp only [rd] at h ⊢
      cases e : S[n]? with
      | none => rw [e] at h; simp [isPd] at h
      | some o =>
        rw [e] at h
        cases o with
        | lst ys =>
          obtain ⟨vs, h1, h2⟩ := f.obj n _ e
          exact .lst (SqL.of h1) (RelL.dp (by simpa [isPd] using h) h2)
        | ins C fs => simp [isPd] at h
        | dct kvs => simp [isPd] at h
  | _ => exact Rel.dp h r
/-! ### two-place operations -/
abbrev QD := D → Sto → Prop
abbrev F2 := D → D → Sto → QD → Prop
def OpS (c : Cg) (f : F2) (r : R2) : Prop := ∀ (w : Wd) (S : Sto) (H : Hp) (d e : D) (x y : V) (Q' : QD) (Q : VK), Wf c w S H → Rel c w S.length H d x → Rel c w S.length H e y → f d e S Q' →
  (∀ w' S' H' a b, Stp w S.length H w' S'.length H' → Wf c w' S' H' → Rel c w' S'.length H' a b → Q' a S' → Q b H') → r x y H Q
/-- a value that needs no heap -/
theorem fin0 {c : Cg} {w : Wd} {S : Sto} {H : Hp} {Q' : QD} {Q : VK} (f : Wf c w S H) (k : ∀ w' S' H' a b, Stp w S.length H w' S'.length H' → Wf c w' S' H' → Rel c w' S'.length H' a b → Q' a S' → Q b H') {a : D} {b : V} (r : Rel c w S.length H a b) (q : Q' a S) : Q b H :=
  k w S H a b Stp.refl f r q
/-- a new list, a new tuple -/
theorem finL {c : Cg} {w : Wd} {S : Sto} {H H2 : Hp} {Q' : QD} {Q : VK} (f : Wf c w S H) (k : ∀ w' S' H' a b, Stp w S.length H w' S'.length H' → Wf c w' S' H' → Rel c w' S'.length H' a b → Q' a S' → Q b H') {xs : List D} {vs : List V} {p : Addr}
    (hr : RelL c w S.length H xs vs) (hp : H p = none) (g : Same H H2) (h2 : H2 p = some (.lst vs)) (q : Q' (.lst xs) S) : Q (.ref p) H2 :=
  k w S H2 (.lst xs) (.ref p) (Stp.same g) (f.same g) (.lst h2 (f.fresh hp) (hr.stp (Stp.same g))) q
theorem finT {c : Cg} {w : Wd} {S : Sto} {H H2 : Hp} {Q' : QD} {Q : VK} (f : Wf c w S H) (k : ∀ w' S' H' a b, Stp w S.length H w' S'.length H' → Wf c w' S' H' → Rel c w' S'.length H' a b → Q' a S' → Q b H') {xs : List D} {vs : List V} {p : Addr}
    (hr : RelL c w S.length H xs vs) (g : Same H H2) (h2 : SqT c.K H2 p vs) (q : Q' (.tup xs) S) : Q (.ref p) H2 :=
  k w S H2 (.tup xs) (.ref p) (Stp.same g) (f.same g) (.tup h2 (hr.stp (Stp.same g))) q
end A

set_option Elab.async false
set_option linter.all false
set_option maxRecDepth 100000
set_option maxHeartbeats 4000000
namespace A
open PySem PySem.Spec PyProof.Rows L2
theorem OpR.or {X : Cx} {f : Value → Value → Sem Value} {r r' : R2} (h : OpR X f r) (h' : OpR X f r') : OpR X f (fun x y H Q => r x y H Q ∨ r' x y H Q) := by
  intro pins s σ H x y v u Q I rx ry q
  rcases q with q | q
  · exact h pins s σ H x y v u Q I rx ry q
  · exact h' pins s σ H x y v u Q I rx ry q
theorem CallR.or {X : Cx} {f : Value} {r r' : List V → Hp → VK → Prop} (h : CallR X f r) (h' : CallR X f r') : CallR X f (fun x H Q => r x H Q ∨ r' x H Q) := by
  intro pins s σ H xs us Q I rx q
  rcases q with q | q
  · exact h pins s σ H xs us Q I rx q
  · exact h' pins s σ H xs us Q I rx q
/-! ### + - * // % ** -/
def dAdd : F2
  | .int i, e, S, Q => opt (asI e) fun j => Q (.int (i + j)) S
  | .str a, e, S, Q => opt (asS e) fun b => a.length + b.length ≤ big ∧ Q (.str (a ++ b)) S
  | .tup xs, e, S, Q => opt (asT e) fun ys => xs.length + ys.length ≤ big ∧ Q (.tup (xs ++ ys)) S
  | d, e, S, Q => opt (lv S d) fun xs => opt (lv S e) fun ys => xs.length + ys.length ≤ big ∧ Q (.lst (xs ++ ys)) S
def rAddA (K : PySem.W.Frag) : R2 := fun x y H Q => rI0 (fun i j => .int (i + j)) x y H Q ∨ (∃ i j, x = .str i ∧ y = .str j ∧ i.length + j.length ≤ sizeLine ∧ Q (.str (i ++ j)) H) ∨ rCatTA K x y H Q ∨ rCatL K x y H Q
theorem op_addA {X : Cx} (K : PySem.W.Frag) (hK : X.K = K := by rfl) : OpR X (binaryOp .Add) (rAddA K) := OpR.or op_add (OpR.or op_add_str (OpR.or (kop_catA K hK) (op_catL K)))
theorem os_add {c : Cg} : OpS c dAdd (rAddA c.K) := by
  intro w S H d e x y Q' Q f r1 r2 h k
  have L : (opt (lv S d) fun xs => opt (lv S e) fun ys => xs.length + ys.length ≤ big ∧ Q' (.lst (xs ++ ys)) S) → rAddA c.K x y H Q := fun h => by
    obtain ⟨xs, e1, h⟩ := opt_some h
    obtain ⟨ys, e2, z, q⟩ := opt_some h
    obtain ⟨a, vs, rfl, ha, la⟩ := lv_rel f e1 r1
    obtain ⟨b, us, rfl, hb, lb⟩ := lv_rel f e2 r2
    exact .inr (.inr (.inr ⟨a, b, vs, us, rfl, rfl, ha, hb, by rw [← la.len, ← lb.len]; exact big_le z, fun p H2 hp g h2 => finL f k (la.append lb) hp g h2 q⟩))
  cases d with
  | int i =>
    obtain ⟨j, e1, q⟩ := opt_some h
    obtain ⟨rfl, rfl⟩ := asI_rel e1 r2
    cases r1
    exact .inl ⟨_, _, rfl, rfl, fin0 f k (.int _) q⟩
  | str a =>
    obtain ⟨j, e1, z, q⟩ := opt_some h
    obtain ⟨rfl, rfl⟩ := asS_rel e1 r2
    cases r1
    exact .inr (.inl ⟨_, _, rfl, rfl, big_le z, fin0 f k (.str _) q⟩)
  | tup xs =>
    obtain ⟨ys, e1, z, q⟩ := opt_some h
    obtain ⟨b, us, rfl, hb, lb⟩ := asT_rel e1 r2
    cases r1 with
    | tup ha la => exact .inr (.inr (.inl ⟨_, _, _, _, rfl, rfl, ha, hb, by rw [← la.len, ← lb.len]; exact big_le z, fun p H2 g h2 => finT f k (la.append lb) g h2 q⟩))
  | _ => exact L h
def dI2 (C : Int → Int → Prop) (g : Int → Int → D) : F2 := fun d e S Q => opt (asI d) fun i => opt (asI e) fun j => C i j ∧ Q (g i j) S
theorem os_I2 {c : Cg} {C C' : Int → Int → Prop} {g : Int → Int → D} {g' : Int → Int → V} (hC : ∀ i j, C i j → C' i j) (hg : ∀ w N H i j, Rel c w N H (g i j) (g' i j)) : OpS c (dI2 C g) (rI C' g') := by
  intro w S H d e x y Q' Q f r1 r2 h k
  obtain ⟨i, e1, h⟩ := opt_some h
  obtain ⟨j, e2, hc, q⟩ := opt_some h
  obtain ⟨rfl, rfl⟩ := asI_rel e1 r1
  obtain ⟨rfl, rfl⟩ := asI_rel e2 r2
  exact ⟨i, j, rfl, rfl, hC i j hc, fin0 f k (hg _ _ _ i j) q⟩
def dI20 (g : Int → Int → D) : F2 := fun d e S Q => opt (asI d) fun i => opt (asI e) fun j => Q (g i j) S
theorem os_I20 {c : Cg} {g : Int → Int → D} {g' : Int → Int → V} (hg : ∀ w N H i j, Rel c w N H (g i j) (g' i j)) : OpS c (dI20 g) (rI0 g') := by
  intro w S H d e x y Q' Q f r1 r2 h k
  obtain ⟨i, e1, h⟩ := opt_some h
  obtain ⟨j, e2, q⟩ := opt_some h
  obtain ⟨rfl, rfl⟩ := asI_rel e1 r1
  obtain ⟨rfl, rfl⟩ := asI_rel e2 r2
  exact ⟨i, j, rfl, rfl, fin0 f k (hg _ _ _ i j) q⟩
def dSub : F2 := dI20 fun i j => .int (i - j)
theorem os_sub {c : Cg} : OpS c dSub (rI0 fun i j => .int (i - j)) := os_I20 fun _ _ _ _ _ => .int _
def mulOk (i j : Int) : Prop := CMul i j ∨ CMulW i j
theorem op_mulA {X : Cx} : OpR X (binaryOp .Mult) (rI mulOk fun i j => .int (i * j)) := by
  intro pins s σ H x y v u Q I rx ry h
  obtain ⟨i, j, e1, e2, hc, q⟩ := h
  rcases hc with hc | hc
  · exact op_mul pins s σ H x y v u Q I rx ry ⟨i, j, e1, e2, hc, q⟩
  · exact op_mulW pins s σ H x y v u Q I rx ry ⟨i, j, e1, e2, hc, q⟩
def repD (xs : List D) (k : Int) : List D := (List.replicate k.toNat xs).flatten
theorem RelL.rep {c : Cg} {w : Wd} {N : Nat} {H : Hp} {xs : List D} {vs : List V} (h : RelL c w N H xs vs) (n : Nat) : RelL c w N H (List.replicate n xs).flatten (List.replicate n vs).flatten := by
  induction n with
  | zero => exact .nil
  | succ n ih => simp only [List.replicate_succ, List.flatten_cons]; exact h.append ih
/-- a * b -/
def dMul : F2
  | .int i, e, S, Q => opt (asI e) fun j => mulOk i j ∧ Q (.int (i * j)) S
  | .tup xs, e, S, Q => opt (asI e) fun j => (xs ≠ [] ∧ 2 ≤ j ∧ j ≤ 1000 ∧ xs.length ≤ 1000) ∧ Q (.tup (repD xs j)) S
  | d, e, S, Q => opt (lv S d) fun xs => opt (asI e) fun j => (-1000000 < j ∧ j < 1000000 ∧ xs.length * j.toNat ≤ big) ∧ Q (.lst (repD xs j)) S
def rMulA (K : PySem.W.Frag) : R2 := fun x y H Q => rI mulOk (fun i j => .int (i * j)) x y H Q ∨ rRepL x y H Q ∨ rRepT K x y H Q
theorem op_mulB {X : Cx} (K : PySem.W.Frag) (hK : X.K = K := by rfl) : OpR X (binaryOp .Mult) (rMulA K) := OpR.or op_mulA (OpR.or op_repL (hK ▸ op_repT))
theorem flatten_rep_neg {xs : List V} {k : Int} (h : k < 0) : (List.replicate k.toNat xs).flatten = [] := by rw [Int.toNat_of_nonpos (by omega)]; rfl
theorem os_mul {c : Cg} : OpS c dMul (rMulA c.K) := by
  intro w S H d e x y Q' Q f r1 r2 h k
  have L : (opt (lv S d) fun xs => opt (asI e) fun j => (-1000000 < j ∧ j < 1000000 ∧ xs.length * j.toNat ≤ big) ∧ Q' (.lst (repD xs j)) S) → rMulA c.K x y H Q := fun h => by
    obtain ⟨xs, e1, h⟩ := opt_some h
    obtain ⟨j, e2, ⟨z0, z1, z2⟩, q⟩ := opt_some h
    obtain ⟨a, vs, rfl, ha, la⟩ := lv_rel f e1 r1
    obtain ⟨rfl, rfl⟩ := asI_rel e2 r2
    exact .inr (.inl ⟨a, j, vs, rfl, rfl, ha, by omega, by omega, by rw [← la.len]; exact big_le z2, fun p H2 hp g h2 => finL f k (la.rep _) hp g h2 q⟩)
  cases d with
  | int i =>
    obtain ⟨j, e1, z, q⟩ := opt_some h
    obtain ⟨rfl, rfl⟩ := asI_rel e1 r2
    cases r1
    exact .inl ⟨_, _, rfl, rfl, z, fin0 f k (.int _) q⟩
  | tup xs =>
    obtain ⟨j, e1, ⟨z1, z2, z3, z4⟩, q⟩ := opt_some h
    obtain ⟨rfl, rfl⟩ := asI_rel e1 r2
    cases r1 with
    | @tup a xs' vs ha la =>
      have hne : vs ≠ [] := fun e => z1 (by have := la.len; rw [e] at this; exact List.length_eq_zero_iff.mp this)
      exact .inr (.inr ⟨_, j, vs, rfl, rfl, ha, hne, z2, z3, by rw [← la.len]; exact z4, fun p hp => finT f k (la.rep _) (same_new hp _) (SqT.of upd_same) q⟩)
  | _ => exact L h
def dFdiv : F2 := dI2 (fun _ j => 0 < j ∧ j < 1073741824) fun i j => .int (i / j)
theorem os_fdiv {c : Cg} : OpS c dFdiv (rI CDiv fun i j => .int (i / j)) := os_I2 (fun _ _ h => h) fun _ _ _ _ _ => .int _
def dMod : F2 := dI2 (fun _ j => 0 < j) fun i j => .int (i % j)
theorem os_mod {c : Cg} : OpS c dMod (rI (fun _ j => 0 < j) fun i j => .int (i % j)) := os_I2 (fun _ _ h => h) fun _ _ _ _ _ => .int _
def dPow : F2 := dI2 (fun i j => 0 ≤ j ∧ j ≤ 1000000 ∧ i.natAbs < 2 ^ 64) fun i j => .int (i ^ j.toNat)
theorem os_pow {c : Cg} : OpS c dPow (rI CPow fun i j => .int (i ^ j.toNat)) := os_I2 (fun _ _ h => h) fun _ _ _ _ _ => .int _
/-! ### comparisons -/
def dLt : F2 := dI20 fun i j => .bl (decide (i < j))
theorem os_lt {c : Cg} : OpS c dLt (rI0 fun i j => .bl (decide (i < j))) := os_I20 fun _ _ _ _ _ => .bl _
def dLe : F2 := dI20 fun i j => .bl (decide (i ≤ j))
theorem os_le {c : Cg} : OpS c dLe (rI0 fun i j => .bl (decide (i ≤ j))) := os_I20 fun _ _ _ _ _ => .bl _
def dGt : F2 := dI20 fun i j => .bl (decide (j < i))
theorem os_gt {c : Cg} : OpS c dGt (rI0 fun i j => .bl (decide (j < i))) := os_I20 fun _ _ _ _ _ => .bl _
def dGe : F2 := dI20 fun i j => .bl (decide (j ≤ i))
theorem os_ge {c : Cg} : OpS c dGe (rI0 fun i j => .bl (decide (j ≤ i))) := os_I20 fun _ _ _ _ _ => .bl _
/-- flat things are held against each other at once -/
def eqF : D → D → Option Bool
  | .int i, .int j => some (decide (i = j))
  | .str a, .str b => some (decide (a = b))
  | .bl a, .bl b => some (decide (a = b))
  | .non, .non => some true
  | .int _, .non => some false
  | .non, .int _ => some false
  | .str _, .non => some false
  | .non, .str _ => some false
  | .int _, .str _ => some false
  | .str _, .int _ => some false
  | _, _ => none
def dEqB (neg : Bool) : F2 := fun d e S Q => match eqF d e with
  | some b => Q (.bl (b != neg)) S
  | none => (dat (rd S d) = true ∧ dat (rd S e) = true) ∧ Q (.bl (eqD (rd S d) (rd S e) != neg)) S
def dEq : F2 := dEqB false
def dNe : F2 := dEqB true
def rEqA (K : PySem.W.Frag) : R2 := fun x y H Q => rEq x y H Q ∨ rEqD K x y H Q
def rNeA (K : PySem.W.Frag) : R2 := fun x y H Q => rNe x y H Q ∨ rNeD K x y H Q
theorem op_eqA {X : Cx} (K : PySem.W.Frag) (hu : X.A.units + 64 < cLine) (hK : X.K = K := by rfl) : OpR X (compareOp .Eq) (rEqA K) := OpR.or op_eq (kop_eqD K hK hu)
theorem op_neA {X : Cx} (K : PySem.W.Frag) (hu : X.A.units + 64 < cLine) (hK : X.K = K := by rfl) : OpR X (compareOp .NotEq) (rNeA K) := OpR.or op_ne (kop_neD K hK hu)
theorem eqF_rel {c : Cg} {w : Wd} {N : Nat} {H : Hp} {d e : D} {x y : V} {b : Bool} (h : eqF d e = some b) (r1 : Rel c w N H d x) (r2 : Rel c w N H e y) : scal x y = true ∧ decide (x = y) = b := by
  cases d <;> cases e <;> simp [eqF] at h <;> cases r1 <;> cases r2 <;> simp_all [scal]
theorem dat_iff {d : D} (h : dat d = true) : isPd d = true ∧ SeqAt.shaped (pd d) = true := by simpa [dat] using h
theorem bxf (b : Bool) : (b != false) = b := by cases b <;> rfl
theorem bxt (b : Bool) : (b != true) = !b := by cases b <;> rfl
theorem os_eq {c : Cg} : OpS c dEq (rEqA c.K) := by
  intro w S H d e x y Q' Q f r1 r2 h k
  unfold dEq dEqB at h
  cases he : eqF d e with
  | some b =>
    rw [he] at h
    obtain ⟨h1, h2⟩ := eqF_rel he r1 r2
    refine .inl ⟨h1, ?_⟩
    rw [h2]
    have h : Q' (.bl (b != false)) S := h
    rw [bxf] at h
    exact fin0 f k (.bl _) h
  | none =>
    rw [he] at h
    obtain ⟨⟨h1, h2⟩, q⟩ := h
    obtain ⟨p1, s1⟩ := dat_iff h1
    obtain ⟨p2, s2⟩ := dat_iff h2
    refine .inr ⟨_, _, rd_dp f r1 p1, rd_dp f r2 p2, s1, s2, ?_⟩
    rw [bxf] at q
    exact fin0 f k (.bl _) q
theorem os_ne {c : Cg} : OpS c dNe (rNeA c.K) := by
  intro w S H d e x y Q' Q f r1 r2 h k
  unfold dNe dEqB at h
  cases he : eqF d e with
  | some b =>
    rw [he] at h
    obtain ⟨h1, h2⟩ := eqF_rel he r1 r2
    refine .inl ⟨h1, ?_⟩
    rw [h2]
    have h : Q' (.bl (b != true)) S := h
    rw [bxt] at h
    exact fin0 f k (.bl _) h
  | none =>
    rw [he] at h
    obtain ⟨⟨h1, h2⟩, q⟩ := h
    obtain ⟨p1, s1⟩ := dat_iff h1
    obtain ⟨p2, s2⟩ := dat_iff h2
    refine .inr ⟨_, _, rd_dp f r1 p1, rd_dp f r2 p2, s1, s2, ?_⟩
    rw [bxt] at q
    exact fin0 f k (.bl _) q
/-- is None -/
def isNon : D → Option Bool
  | .non => some true
  | _ => some false
def dIs (neg : Bool) : F2 := fun d e S Q => opt (isNon d) fun b => opt (isNon e) fun b' => b' = true ∧ Q (.bl (b != neg)) S
theorem isNon_rel {c : Cg} {w : Wd} {N : Nat} {H : Hp} {d : D} {x : V} {b : Bool} (h : isNon d = some b) (r : Rel c w N H d x) : decide (x = .non) = b := by
  cases r <;> simp_all [isNon]
theorem os_is {c : Cg} : OpS c (dIs false) (fun x y H Q => y = .non ∧ Q (.bl (decide (x = .non))) H) := by
  intro w S H d e x y Q' Q f r1 r2 h k
  obtain ⟨b, e1, h⟩ := opt_some h
  obtain ⟨b', e2, rfl, q⟩ := opt_some h
  have h1 := isNon_rel e1 r1
  have h2 := isNon_rel e2 r2
  rw [bxf] at q
  refine ⟨by simpa using h2, ?_⟩
  rw [h1]
  exact fin0 f k (.bl _) q
theorem os_isnt {c : Cg} : OpS c (dIs true) (fun x y H Q => y = .non ∧ Q (.bl (!decide (x = .non))) H) := by
  intro w S H d e x y Q' Q f r1 r2 h k
  obtain ⟨b, e1, h⟩ := opt_some h
  obtain ⟨b', e2, rfl, q⟩ := opt_some h
  have h1 := isNon_rel e1 r1
  have h2 := isNon_rel e2 r2
  rw [bxt] at q
  refine ⟨by simpa using h2, ?_⟩
  rw [h1]
  exact fin0 f k (.bl _) q
/-- x in a list or tuple of flat things -/
def flt : D → Bool
  | .non => true
  | .bl _ => true
  | .int _ => true
  | .str _ => true
  | _ => false
def eqv1 : D → D → Bool
  | .non, .non => true
  | .bl a, .bl b => a == b
  | .bl a, .int b => (if a then 1 else 0) == b
  | .int a, .bl b => a == (if b then 1 else 0)
  | .int a, .int b => a == b
  | .str a, .str b => a == b
  | _, _ => false
def dIn (neg : Bool) : F2 := fun d e S Q => opt (sv S e) fun xs => (flt d = true ∧ xs.all flt = true) ∧ Q (.bl ((xs.any fun y => eqv1 y d) != neg)) S
theorem flt_rel {c : Cg} {w : Wd} {N : Nat} {H : Hp} {d : D} {x : V} (h : flt d = true) (r : Rel c w N H d x) : flatV x = true := by
  cases r <;> simp_all [flt, flatV]
theorem eqv1_rel {c : Cg} {w : Wd} {N : Nat} {H : Hp} {d e : D} {x y : V} (h : flt d = true) (h' : flt e = true) (r : Rel c w N H d x) (r' : Rel c w N H e y) : eqV x y = eqv1 d e := by
  cases r <;> cases r' <;> simp_all [flt, eqv1, eqV]
theorem any_rel {c : Cg} {w : Wd} {N : Nat} {H : Hp} {d : D} {x : V} (h : flt d = true) (r : Rel c w N H d x) : ∀ {ds : List D} {vs : List V}, ds.all flt = true → RelL c w N H ds vs → vs.all flatV = true ∧ inV x vs = ds.any fun y => eqv1 y d
  | _, _, _, .nil => ⟨rfl, rfl⟩
  | e :: ds, y :: vs, ha, .cons r1 rs => by
    have ha' : flt e = true ∧ ds.all flt = true := by simpa using ha
    obtain ⟨h1, h2⟩ := any_rel h r ha'.2 rs
    refine ⟨by simp [flt_rel ha'.1 r1, List.all_eq_true.mp h1]; exact fun z hz => List.all_eq_true.mp h1 z hz, ?_⟩
    unfold inV at h2 ⊢
    simp only [List.any_cons, eqv1_rel ha'.1 h r1 r, h2]
theorem os_in {c : Cg} {neg : Bool} : OpS c (dIn neg) (rIn c.K neg) := by
  intro w S H d e x y Q' Q f r1 r2 h k
  obtain ⟨xs, e1, ⟨h1, h2⟩, q⟩ := opt_some h
  obtain ⟨a, vs, rfl, ha, la⟩ := sv_rel f e1 r2
  obtain ⟨k1, k2⟩ := any_rel h1 r1 h2 la
  refine ⟨a, vs, rfl, ha, flt_rel h1 r1, k1, ?_⟩
  rw [k2]
  cases neg with
  | false => rw [bxf] at q; exact fin0 f k (.bl _) q
  | true => rw [bxt] at q; exact fin0 f k (.bl _) q
/-! ### subscripts -/
def dIx : F2 := fun d e S Q => opt (sv S d) fun xs => opt (asI e) fun i => opt (atI xs i) fun y => Q y S
theorem atI_rel {c : Cg} {w : Wd} {N : Nat} {H : Hp} {xs : List D} {vs : List V} {i : Int} {y : D} (h : atI xs i = some y) (r : RelL c w N H xs vs) : ∃ v, atI vs i = some v ∧ Rel c w N H y v := by
  unfold atI at h ⊢
  rw [← r.len]
  cases e : ixN xs.length i with
  | none => rw [e] at h; cases h
  | some j =>
    rw [e] at h
    exact r.get h
theorem os_ix {c : Cg} : OpS c dIx (fun x y H Q => rIxL c.K x y H Q ∨ rIxT c.K x y H Q) := by
  intro w S H d e x y Q' Q f r1 r2 h k
  obtain ⟨xs, e1, h⟩ := opt_some h
  obtain ⟨i, e2, h⟩ := opt_some h
  obtain ⟨z, e3, q⟩ := opt_some h
  obtain ⟨a, vs, rfl, ha, la⟩ := sv_rel f e1 r1
  obtain ⟨rfl, rfl⟩ := asI_rel e2 r2
  obtain ⟨v, h1, h2⟩ := atI_rel e3 la
  have fin := fin0 f k h2 q
  rcases ha with ha | ha
  · exact .inl ⟨a, vs, i, v, rfl, rfl, ha, h1, fin⟩
  · exact .inr ⟨a, vs, i, v, rfl, rfl, ha, h1, fin⟩
def cutD (xs : List D) (lo hi : Option Int) : List D := (xs.drop (HT.sIx xs.length 0 lo)).take (HT.sIx xs.length xs.length hi - HT.sIx xs.length 0 lo)
theorem cut_rel {c : Cg} {w : Wd} {N : Nat} {H : Hp} {xs : List D} {vs : List V} (r : RelL c w N H xs vs) (lo hi : Option Int) : RelL c w N H (cutD xs lo hi) (cutV vs lo hi) := by
  unfold cutD cutV
  rw [r.len]
  exact (r.drop _).take _
def dSl (d : D) (lo hi : Option Int) (S : Sto) (Q : QD) : Prop := match d with
  | .tup xs => Q (.tup (cutD xs lo hi)) S
  | d => opt (lv S d) fun xs => Q (.lst (cutD xs lo hi)) S
def rSlA (K : PySem.W.Frag) : V → Option Int → Option Int → Hp → VK → Prop := fun x lo hi H Q => rSlTA K x lo hi H Q ∨ rSlLA K x lo hi H Q
theorem sl_A {X : Cx} (K : PySem.W.Frag) (hK : X.K = K := by rfl) : SlR X (rSlA K) := SlR.or (ksl_tupA K hK) (ksl_list K hK)
theorem os_sl {c : Cg} {w : Wd} {S : Sto} {H : Hp} {d : D} {x : V} {lo hi : Option Int} {Q' : QD} {Q : VK} (f : Wf c w S H) (r : Rel c w S.length H d x) (h : dSl d lo hi S Q')
    (k : ∀ w' S' H' a b, Stp w S.length H w' S'.length H' → Wf c w' S' H' → Rel c w' S'.length H' a b → Q' a S' → Q b H') : rSlA c.K x lo hi H Q := by
  have L : (opt (lv S d) fun xs => Q' (.lst (cutD xs lo hi)) S) → rSlA c.K x lo hi H Q := fun h => by
    obtain ⟨xs, e1, q⟩ := opt_some h
    obtain ⟨a, vs, rfl, ha, la⟩ := lv_rel f e1 r
    exact .inr ⟨a, vs, rfl, SqL.of ha, fun p H2 hp g h2 => finL f k (cut_rel la lo hi) hp g h2 q⟩
  cases d with
  | tup xs =>
    cases r with
    | tup ha la => exact .inl ⟨_, _, rfl, ha, fun p H2 g h2 => finT f k (cut_rel la lo hi) g h2 h⟩
  | _ => exact L h
end A

set_option Elab.async false
set_option linter.all false
set_option maxRecDepth 100000
set_option maxHeartbeats 4000000
namespace A
open PySem PySem.Spec PyProof.Rows L2
theorem PE.imp {X : Cx} {e : Expr} {t t' : TE} (h : PE X e t) (k : ∀ σ H Q, t' σ H Q → t σ H Q) : PE X e t' := ⟨fun pins s σ H Q I q => h.run pins s σ H Q I (k σ H Q q)⟩
theorem PT.imp {X : Cx} {e : Expr} {t t' : TT} (h : PT X e t) (k : ∀ σ H Q, t' σ H Q → t σ H Q) : PT X e t' := ⟨fun pins s σ H Q I q => h.run pins s σ H Q I (k σ H Q q)⟩
theorem PW.imp {X : Cx} {e : Expr} {t t' : TT} (h : PW X e t) (k : ∀ σ H Q, t' σ H Q → t σ H Q) : PW X e t' := ⟨fun wh pins s σ H Q I q => h.run wh pins s σ H Q I (k σ H Q q)⟩
theorem PA.imp {X : Cx} {es : List Expr} {t t' : TA} (h : PA X es t) (k : ∀ σ H Q, t' σ H Q → t σ H Q) : PA X es t' := ⟨fun pos pins s σ H Q I q => h.run pos pins s σ H Q I (k σ H Q q)⟩
theorem PK.imp {X : Cx} {es : List Keyword} {t t' : TA} (h : PK X es t) (k : ∀ σ H Q, t' σ H Q → t σ H Q) : PK X es t' := ⟨fun pos pins s σ H Q I q => h.run pos pins s σ H Q I (k σ H Q q)⟩
theorem PO.imp {X : Cx} {e : Option Expr} {t t' : TO} (h : PO X e t) (k : ∀ σ H Q, t' σ H Q → t σ H Q) : PO X e t' := ⟨fun pins s σ H Q I q => h.run pins s σ H Q I (k σ H Q q)⟩
theorem PS.imp {X : Cx} {e : Stmt} {t t' : TS} (h : PS X e t) (k : ∀ D σ H, t' D σ H → t D σ H) : PS X e t' := ⟨fun pins s σ H D I q => h.run pins s σ H D I (k D σ H q)⟩
theorem PSs.imp {X : Cx} {e : List Stmt} {t t' : TS} (h : PSs X e t) (k : ∀ D σ H, t' D σ H → t D σ H) : PSs X e t' := ⟨fun pins s σ H D I q => h.run pins s σ H D I (k D σ H q)⟩
abbrev relB : Wd → Nat → Hp → Bool → Bool → Prop := fun _ _ _ a b => a = b
abbrev relI : Wd → Nat → Hp → Option Int → Option Int → Prop := fun _ _ _ a b => a = b
/-- what stands around a piece: the written part, a held error, where errors go -/
structure Cn where
  c : Cg
  g : Gx
  W : WX
abbrev upE (n : Cn) (t : AM D) : TE := up n.c n.g n.W (Rel n.c) t
abbrev upT (n : Cn) (t : AM Bool) : TT := up n.c n.g n.W relB t
abbrev upA (n : Cn) (t : AM (List D)) : TA := up n.c n.g n.W (RelL n.c) t
abbrev upO (n : Cn) (t : AM (Option Int)) : TO := up n.c n.g n.W relI t
abbrev JE (X : Cx) (n : Cn) (e : Expr) (t : AM D) : Prop := PE X e (upE n t)
abbrev JT (X : Cx) (n : Cn) (e : Expr) (t : AM Bool) : Prop := PT X e (upT n t)
abbrev JW (X : Cx) (n : Cn) (e : Expr) (t : AM Bool) : Prop := PW X e (upT n t)
abbrev JA (X : Cx) (n : Cn) (es : List Expr) (t : AM (List D)) : Prop := PA X es (upA n t)
abbrev JK (X : Cx) (n : Cn) (es : List Keyword) (t : AM (List D)) : Prop := PK X es (upA n t)
abbrev JO (X : Cx) (n : Cn) (e : Option Expr) (t : AM (Option Int)) : Prop := PO X e (upO n t)
/-- the end of a reading: a value that needs no more -/
theorem upW.fin {α β : Type} {c : Cg} {W : WX} {r : Wd → Nat → Hp → α → β → Prop} {a : α} {b : β} {w : Wd} {ρ : Ev} {S : Sto} {σ : L2.St} {H : Hp} {Q : β → Hp → Prop}
    (h : upW c W r (fun _ S Q _ => Q a S) w ρ S σ H Q) (f : Wf c w S H) (k : r w S.length H a b) : Q b H := by
  obtain ⟨Q', E', ht, hq, _⟩ := h
  exact hq w S H a b Stp.refl f k ht
/-- the end: an operation on values -/
theorem upW.op {α β : Type} {c : Cg} {W : WX} {r : Wd → Nat → Hp → α → β → Prop} {f : Sto → (α → Sto → Prop) → Prop} {w : Wd} {ρ : Ev} {S : Sto} {σ : L2.St} {H : Hp} {Q : β → Hp → Prop} {P : Prop}
    (h : upW c W r (fun _ S Q _ => f S Q) w ρ S σ H Q) (k : ∀ Q', f S Q' → (∀ w' S' H' a b, Stp w S.length H w' S'.length H' → Wf c w' S' H' → r w' S'.length H' a b → Q' a S' → Q b H') → P) : P := by
  obtain ⟨Q', E', ht, hq, _⟩ := h
  exact k Q' ht hq
section
variable {X : Cx} {n : Cn} {a b e o : Expr} {es : List Expr} {ta tb tc : AM D} {tA tB' : AM Bool} {t : AM (List D)} {pos p : Pos}
/-! names, constants -/
def slot : Ev → Nat → Option D
  | [], _ => none
  | o :: _, 0 => o
  | _ :: r, i + 1 => slot r i
theorem slot_get : ∀ {ρ : Ev} {i : Nat} {d : D}, slot ρ i = some d → ρ[i]? = some (some d)
  | [], _, _, h => by simp [slot] at h
  | o :: _, 0, d, h => by simp [slot] at h; simp [h]
  | _ :: r, i + 1, d, h => by simp [slot] at h; simpa using slot_get h
def aVar (i : Nat) : AM D := fun ρ S Q _ => opt (slot ρ i) fun d => Q d S
def aC (d : D) : AM D := fun _ S Q _ => Q d S
theorem je_of_var {i : Nat} (h : PE X e (tVar i)) : JE X n e (aVar i) := PE.imp h fun σ H Q ⟨w, ρ, S, st, Q', E', ht, hq, _⟩ => by
  obtain ⟨d, e1, q⟩ := opt_some ht
  obtain ⟨v, e2, r⟩ := st.ev.2 i d (slot_get e1)
  exact ⟨v, e2, hq w S H d v Stp.refl st.wf r q⟩
theorem jv (i : Nat) {x : Str} {pos : Pos} (hN : X.N[i]? = some x := by rfl) (hv : Vis X.env.scope x := by first | exact Or.inl rfl | exact Or.inr (Or.inl rfl) | exact Or.inr (Or.inr rfl)) (hd : (x == ("__debug__" : Str)) = false := by decide)
    (hcd : (x == ("__classdict__" : Str)) = false := by decide) : JE X n (.Name x pos) (aVar i) := je_of_var (pv i hN hv hd hcd)
theorem je_of_c {v : V} {d : D} (h : PE X e (tC v)) (r : ∀ w N H, Rel n.c w N H d v) : JE X n e (aC d) := PE.imp h fun σ H Q ⟨w, ρ, S, st, h⟩ => h.fin st.wf (r _ _ _)
theorem j_int {i j pos} : JE X n (.Constant (.int i) j pos) (aC (.int i)) := je_of_c pe_int fun _ _ _ => .int i
theorem j_bl {b j pos} : JE X n (.Constant (.bool b) j pos) (aC (.bl b)) := je_of_c pe_bl fun _ _ _ => .bl b
theorem j_non {j pos} : JE X n (.Constant .none j pos) (aC .non) := je_of_c pe_non fun _ _ _ => .non
theorem j_str {x j pos} : JE X n (.Constant (.str x) j pos) (aC (.str x)) := je_of_c pe_str fun _ _ _ => .str x
/-! operations -/
def aOp (f : F2) (ta tb : AM D) : AM D := aBind ta fun x => aBind tb fun y => fun _ S Q _ => f x y S Q
theorem up_op {f : F2} {r : R2} (hs : OpS n.c f r) {σ : L2.St} {H : Hp} {Q : VK} (h : upE n (aOp f ta tb) σ H Q) : tOp r (upE n ta) (upE n tb) σ H Q := by
  obtain ⟨w, ρ, S, st, h⟩ := h
  refine (upW.bind st h).mono ?_
  rintro x H1 ⟨w1, S1, d, st1, _, r1, h1⟩
  refine (upW.bind st1 h1).mono ?_
  rintro y H2 ⟨w2, S2, e, st2, s2, r2, h2⟩
  exact h2.op fun Q' hf hq => hs w2 S2 H2 d e x y Q' Q st2.wf (r1.stp s2) r2 hf hq
theorem j_op {op : Operator} {f : F2} {r : R2} (ho : OpR X (binaryOp op) r) (hs : OpS n.c f r) (ha : JE X n a ta) (hb : JE X n b tb) : JE X n (.BinOp a op b pos) (aOp f ta tb) := PE.imp (pe_op ho ha hb) fun _ _ _ h => up_op hs h
theorem j_cmp {op : CmpOp} {f : F2} {r : R2} (ho : OpR X (compareOp op) r) (hs : OpS n.c f r) (ha : JE X n a ta) (hb : JE X n b tb) (hm : behindInMarks op b = false) : JE X n (.Compare a [op] [b] pos) (aOp f ta tb) := PE.imp (pe_cmpR ho ha hb hm) fun _ _ _ h => up_op hs h
theorem j_ix {f : F2} {r : R2} (ho : IxR X r) (hs : OpS n.c f r) (ha : JE X n a ta) (hb : JE X n b tb) (hp : PlainIx b) : JE X n (.Subscript a b pos) (aOp f ta tb) := PE.imp (pe_ix ho ha hb hp) fun _ _ _ h => up_op hs h
/-- a value as a truth -/
def aTest (t : AM D) : AM Bool := aBind t fun x => fun _ S Q _ => opt (asB x) fun b => Q b S
theorem up_test {tt : TE} {σ : L2.St} {H : Hp} {Q : Bool → Hp → Prop} (h : upT n (aTest ta) σ H Q) (k : ∀ Q, upE n ta σ H Q → tt σ H Q) : tTest tt σ H Q := by
  obtain ⟨w, ρ, S, st, h⟩ := h
  refine k _ ((upW.bind st h).mono ?_)
  rintro x H1 ⟨w1, S1, d, st1, _, r1, h1⟩
  refine h1.op fun Q' hf hq => ?_
  obtain ⟨b, e1, q⟩ := opt_some hf
  obtain ⟨rfl, rfl⟩ := asB_rel e1 r1
  exact ⟨b, rfl, hq _ _ _ b b Stp.refl st1.wf rfl q⟩
theorem jt_cmp {op : CmpOp} {f : F2} {r : R2} (ho : OpR X (compareOp op) r) (hs : OpS n.c f r) (ha : JE X n a ta) (hb : JE X n b tb) (hm : behindInMarks op b = false) : JT X n (.Compare a [op] [b] pos) (aTest (aOp f ta tb)) :=
  PT.imp (pt_cmpR ho ha hb hm) fun _ _ _ h => up_test h fun _ q => up_op hs q
theorem jt_val (h : JE X n e ta) (he : ∀ whole, isTrue e X.env whole = (do let v ← whole; standAt e.pos; holding [v] (truthy v)) := by intro _; rfl) : JT X n e (aTest ta) :=
  PT.imp (pt_val h he) fun σ H Q h => up_test (tt := upE n ta) h fun _ q => q
/-- a <= b < c -/
def aChain (f g : F2) (ta tb tc : AM D) : AM D := aBind ta fun x => aBind tb fun y => aBind (fun _ S Q _ => f x y S Q) fun z => fun ρ S Q E => opt (asB z) fun k => if k = true then aBind tc (fun u => fun _ S Q _ => g y u S Q) ρ S Q E else Q (.bl false) S
theorem up_chain {f g : F2} {r r' : R2} (hs : OpS n.c f r) (hs' : OpS n.c g r') {σ : L2.St} {H : Hp} {Q : VK} (h : upE n (aChain f g ta tb tc) σ H Q) : tChain r r' (upE n ta) (upE n tb) (upE n tc) σ H Q := by
  obtain ⟨w, ρ, S, st, h⟩ := h
  refine (upW.bind st h).mono ?_
  rintro x H1 ⟨w1, S1, d, st1, _, r1, h1⟩
  refine (upW.bind st1 h1).mono ?_
  rintro y H2 ⟨w2, S2, e, st2, s2, r2, h2⟩
  obtain ⟨Q', E', ht, hq, he⟩ := h2
  refine hs w2 S2 H2 d e x y _ _ st2.wf (r1.stp s2) r2 ht fun w3 S3 H3 z v s3 f3 r3 q => ?_
  obtain ⟨k, e1, q⟩ := opt_some q
  obtain ⟨rfl, rfl⟩ := asB_rel e1 r3
  refine ⟨k, rfl, ?_⟩
  have st3 := st2.step s3 f3
  cases k with
  | false => exact hq _ _ _ _ _ s3 f3 (.bl false) q
  | true =>
    have h3 : upW n.c n.W (Rel n.c) (aBind tc (fun u => fun _ S Q _ => g e u S Q)) w3 ρ S3 σ H3 Q := ⟨Q', E', q, fun w' S' H' a b s f r z => hq w' S' H' a b (s3.trans s) f r z, fun w' S' H' x cls d s f r z => he w' S' H' x cls d (s3.trans s) f r z⟩
    refine (upW.bind st3 h3).mono ?_
    rintro u H4 ⟨w4, S4, d4, st4, s4, r4, h4⟩
    exact h4.op fun Q' hf hq => hs' w4 S4 H4 e d4 y u Q' Q st4.wf ((r2.stp s3).stp s4) r4 hf hq
theorem j_chain {op op' : CmpOp} {f g : F2} {r r' : R2} {c : Expr} (ho : OpR X (compareOp op) r) (ho' : OpR X (compareOp op') r') (hs : OpS n.c f r) (hs' : OpS n.c g r') (ha : JE X n a ta) (hb : JE X n b tb) (hc : JE X n c tc)
    (hm : lastMarks [op, op'] [b, c] = false := by with_unfolding_all rfl) : JE X n (.Compare a [op, op'] [b, c] pos) (aChain f g ta tb tc) := PE.imp (pe_chain ho ho' ha hb hc hm) fun _ _ _ h => up_chain hs hs' h
theorem jt_chain {op op' : CmpOp} {f g : F2} {r r' : R2} {c : Expr} (ho : OpR X (compareOp op) r) (ho' : OpR X (compareOp op') r') (hs : OpS n.c f r) (hs' : OpS n.c g r') (ha : JE X n a ta) (hb : JE X n b tb) (hc : JE X n c tc)
    (hm : lastMarks [op, op'] [b, c] = false := by with_unfolding_all rfl) : JT X n (.Compare a [op, op'] [b, c] pos) (aTest (aChain f g ta tb tc)) := PT.imp (pt_chain ho ho' ha hb hc hm) fun _ _ _ h => up_test h fun _ q => up_chain hs hs' q
/-! and, or, not, if .. else -/
def aAnd (t u : AM Bool) : AM Bool := aBind t fun c ρ S Q E => if c = true then u ρ S Q E else Q false S
def aOr (t u : AM Bool) : AM Bool := aBind t fun c ρ S Q E => if c = true then Q true S else u ρ S Q E
def aNot (t : AM Bool) : AM Bool := aBind t fun c _ S Q _ => Q (!c) S
theorem upW.into {α β : Type} {c : Cg} {g : Gx} {W : WX} {r : Wd → Nat → Hp → α → β → Prop} {t : AM α} {w : Wd} {ρ : Ev} {S : Sto} {σ : L2.St} {H : Hp} {Q : β → Hp → Prop} (st : Sta c g w ρ S σ H) (h : upW c W r t w ρ S σ H Q) : up c g W r t σ H Q := ⟨w, ρ, S, st, h⟩
theorem jw_and1 (ha : JT X n a tA) : JW X n (.BoolOp .And [a] pos) tA := pw_and1 ha
theorem jw_or1 (ha : JT X n a tA) : JW X n (.BoolOp .Or [a] pos) tA := pw_or1 ha
theorem jw_and {rest : List Expr} (ha : JT X n a tA) (hb : JW X n (.BoolOp .And (b :: rest) pos) tB') : JW X n (.BoolOp .And (a :: b :: rest) pos) (aAnd tA tB') := PW.imp (pw_and ha hb) fun σ H Q ⟨w, ρ, S, st, h⟩ => by
  refine (upW.bind st h).mono ?_
  rintro c H1 ⟨w1, S1, d, st1, _, rfl, h1⟩
  cases d with
  | true => exact upW.into st1 h1
  | false => exact h1.fin st1.wf rfl
theorem jw_or {rest : List Expr} (ha : JT X n a tA) (hb : JW X n (.BoolOp .Or (b :: rest) pos) tB') : JW X n (.BoolOp .Or (a :: b :: rest) pos) (aOr tA tB') := PW.imp (pw_or ha hb) fun σ H Q ⟨w, ρ, S, st, h⟩ => by
  refine (upW.bind st h).mono ?_
  rintro c H1 ⟨w1, S1, d, st1, _, rfl, h1⟩
  cases d with
  | false => exact upW.into st1 h1
  | true => exact h1.fin st1.wf rfl
theorem JW.jt (h : JW X n e tA) : JT X n e tA := PW.pt h
theorem jt_not (ha : JT X n a tA) : JT X n (.UnaryOp .Not a pos) (aNot tA) := PT.imp (pt_not ha) fun σ H Q ⟨w, ρ, S, st, h⟩ => by
  refine (upW.bind st h).mono ?_
  rintro c H1 ⟨w1, S1, d, st1, _, rfl, h1⟩
  exact h1.fin st1.wf rfl
def aAndV (ta tb : AM D) : AM D := aBind ta fun x ρ S Q E => opt (asB x) fun c => if c = true then tb ρ S Q E else Q (.bl false) S
def aOrV (ta tb : AM D) : AM D := aBind ta fun x ρ S Q E => opt (asB x) fun c => if c = true then Q (.bl true) S else tb ρ S Q E
def aNotV (ta : AM D) : AM D := aBind ta fun x _ S Q _ => opt (asB x) fun c => Q (.bl (!c)) S
theorem j_one {op} (h : JE X n a ta) : JE X n (.BoolOp op [a] pos) ta := pe_one h
theorem j_and {rest : List Expr} (ha : JE X n a ta) (hb : JE X n (.BoolOp .And (b :: rest) pos) tb) : JE X n (.BoolOp .And (a :: b :: rest) pos) (aAndV ta tb) := PE.imp (pe_and ha hb) fun σ H Q ⟨w, ρ, S, st, h⟩ => by
  refine (upW.bind st h).mono ?_
  rintro x H1 ⟨w1, S1, d, st1, _, r1, Q', E', ht, hq, he⟩
  obtain ⟨c, e1, q⟩ := opt_some ht
  obtain ⟨rfl, rfl⟩ := asB_rel e1 r1
  refine ⟨c, rfl, ?_⟩
  cases c with
  | true => exact ⟨w1, ρ, S1, st1, Q', E', q, hq, he⟩
  | false => exact hq _ _ _ _ _ Stp.refl st1.wf (.bl false) q
theorem j_or {rest : List Expr} (ha : JE X n a ta) (hb : JE X n (.BoolOp .Or (b :: rest) pos) tb) : JE X n (.BoolOp .Or (a :: b :: rest) pos) (aOrV ta tb) := PE.imp (pe_or ha hb) fun σ H Q ⟨w, ρ, S, st, h⟩ => by
  refine (upW.bind st h).mono ?_
  rintro x H1 ⟨w1, S1, d, st1, _, r1, Q', E', ht, hq, he⟩
  obtain ⟨c, e1, q⟩ := opt_some ht
  obtain ⟨rfl, rfl⟩ := asB_rel e1 r1
  refine ⟨c, rfl, ?_⟩
  cases c with
  | false => exact ⟨w1, ρ, S1, st1, Q', E', q, hq, he⟩
  | true => exact hq _ _ _ _ _ Stp.refl st1.wf (.bl true) q
theorem j_not (ha : JE X n a ta) : JE X n (.UnaryOp .Not a pos) (aNotV ta) := PE.imp (pe_not ha) fun σ H Q ⟨w, ρ, S, st, h⟩ => by
  refine (upW.bind st h).mono ?_
  rintro x H1 ⟨w1, S1, d, st1, _, r1, h1⟩
  refine h1.op fun Q' hf hq => ?_
  obtain ⟨b, e1, q⟩ := opt_some hf
  obtain ⟨rfl, rfl⟩ := asB_rel e1 r1
  exact ⟨b, rfl, hq _ _ _ _ _ Stp.refl st1.wf (.bl _) q⟩
def aIf (t : AM Bool) (ta tb : AM D) : AM D := aBind t fun c ρ S Q E => if c = true then ta ρ S Q E else tb ρ S Q E
theorem j_if {c : Expr} (hc : JT X n c tA) (ha : JE X n a ta) (hb : JE X n b tb) : JE X n (.IfExp c a b pos) (aIf tA ta tb) := PE.imp (pe_ifExp hc ha hb) fun σ H Q ⟨w, ρ, S, st, h⟩ => by
  refine (upW.bind st h).mono ?_
  rintro c H1 ⟨w1, S1, d, st1, _, rfl, h1⟩
  cases d with
  | true => exact upW.into st1 h1
  | false => exact upW.into st1 h1
def aNeg (ta : AM D) : AM D := aBind ta fun x _ S Q _ => opt (asI x) fun i => Q (.int (-i)) S
theorem j_neg (ha : JE X n a ta) : JE X n (.UnaryOp .USub a pos) (aNeg ta) := PE.imp (pe_un un_neg ha) fun σ H Q ⟨w, ρ, S, st, h⟩ => by
  refine (upW.bind st h).mono ?_
  rintro x H1 ⟨w1, S1, d, st1, _, r1, h1⟩
  refine h1.op fun Q' hf hq => ?_
  obtain ⟨b, e1, q⟩ := opt_some hf
  obtain ⟨rfl, rfl⟩ := asI_rel e1 r1
  exact ⟨b, rfl, hq _ _ _ _ _ Stp.refl st1.wf (.int _) q⟩
/-! arguments and displays -/
def aNil : AM (List D) := fun _ S Q _ => Q [] S
def aCons (ta : AM D) (tr : AM (List D)) : AM (List D) := aBind ta fun x => aBind tr fun xs => fun _ S Q _ => Q (x :: xs) S
theorem ja_nil : JA X n [] aNil := PA.imp pa_nil fun σ H Q ⟨w, ρ, S, st, h⟩ => h.fin st.wf .nil
theorem up_cons {σ : L2.St} {H : Hp} {Q : List V → Hp → Prop} (h : upA n (aCons ta t) σ H Q) : tCons (upE n ta) (upA n t) σ H Q := by
  obtain ⟨w, ρ, S, st, h⟩ := h
  refine (upW.bind st h).mono ?_
  rintro x H1 ⟨w1, S1, d, st1, _, r1, h1⟩
  refine (upW.bind st1 h1).mono ?_
  rintro xs H2 ⟨w2, S2, ds, st2, s2, r2, h2⟩
  exact h2.fin st2.wf (.cons (r1.stp s2) r2)
theorem ja_cons (ha : JE X n e ta) (hr : JA X n es t) (hs : starEach (e :: es) X.env = (false, eval e X.env) :: starEach es X.env := by rfl) : JA X n (e :: es) (aCons ta t) := PA.imp (pa_cons ha hr hs) fun _ _ _ h => up_cons h
theorem jk_nil : JK X n [] aNil := PK.imp pk_nil fun σ H Q ⟨w, ρ, S, st, h⟩ => h.fin st.wf .nil
theorem jk_cons {kws : List Keyword} {nm : Option Str} {kpos : Pos} (ha : JE X n e ta) (hr : JK X n kws t) : JK X n (⟨nm, e, kpos⟩ :: kws) (aCons ta t) := PK.imp (pk_cons ha hr) fun _ _ _ h => up_cons h
def aStar (ta : AM D) (tr : AM (List D)) : AM (List D) := aBind ta fun x => fun ρ S Q E => opt (sv S x) fun ys => aBind tr (fun xs => fun _ S Q _ => Q (ys ++ xs) S) ρ S Q E
def aTup (t : AM (List D)) : AM D := aBind t fun xs => fun _ S Q _ => xs.length ≤ big ∧ Q (.tup xs) S
def aLst (t : AM (List D)) : AM D := aBind t fun xs => fun _ S Q _ => xs.length ≤ big ∧ Q (.lst xs) S
def aLstM (t : AM (List D)) : AM D := aBind t fun xs => fun _ S Q _ => xs.length ≤ big ∧ Q (.ref S.length) (S ++ [.lst xs])
theorem j_tup {x1} (h : JA X n es t) : JE X n (.Tuple es x1 pos) (aTup t) := PE.imp (pe_tupA h) fun σ H Q ⟨w, ρ, S, st, h⟩ => by
  refine (upW.bind st h).mono ?_
  rintro vs H1 ⟨w1, S1, xs, st1, _, r1, h1⟩
  refine h1.op fun Q' hf hq => ?_
  exact ⟨by rw [← r1.len]; exact big_le hf.1, fun p H2 hp g h2 => finT st1.wf hq r1 g (SqT.of h2) hf.2⟩
theorem j_lst (h : JA X n es t) : JE X n (.List es pos) (aLst t) := PE.imp (pe_lstA h) fun σ H Q ⟨w, ρ, S, st, h⟩ => by
  refine (upW.bind st h).mono ?_
  rintro vs H1 ⟨w1, S1, xs, st1, _, r1, h1⟩
  refine h1.op fun Q' hf hq => ?_
  exact ⟨by rw [← r1.len]; exact big_le hf.1, fun p H2 hp g h2 => finL st1.wf hq r1 hp g h2 hf.2⟩
/-- a new list of the row -/
theorem finM {c : Cg} {w : Wd} {S : Sto} {H H2 : Hp} {Q' : QD} {Q : VK} (f : Wf c w S H) (k : ∀ w' S' H' a b, Stp w S.length H w' S'.length H' → Wf c w' S' H' → Rel c w' S'.length H' a b → Q' a S' → Q b H') {xs : List D} {vs : List V} {p : Addr}
    (hr : RelL c w S.length H xs vs) (hp : H p = none) (g : Same H H2) (h2 : H2 p = some (.lst vs)) (q : Q' (.ref S.length) (S ++ [.lst xs])) : Q (.ref p) H2 := by
  have len : (S ++ [O.lst xs]).length = S.length + 1 := by simp
  have s := Stp.push (w := w) (N := S.length) hp g
  have r : Rel c (w.push S.length p) (S.length + 1) H2 (.ref S.length) (.ref ((w.push S.length p).i S.length)) := .ref (Nat.lt_succ_self _)
  have e : (w.push S.length p).i S.length = p := if_pos rfl
  rw [e] at r
  refine k (w.push S.length p) (S ++ [.lst xs]) H2 _ _ (by rw [len]; exact s) (f.push (o := .lst xs) hp g ⟨vs, h2, hr.stp s⟩) (by rw [len]; exact r) q
theorem j_lstM (h : JA X n es t) : JE X n (.List es pos) (aLstM t) := PE.imp (pe_lstA h) fun σ H Q ⟨w, ρ, S, st, h⟩ => by
  refine (upW.bind st h).mono ?_
  rintro vs H1 ⟨w1, S1, xs, st1, _, r1, h1⟩
  refine h1.op fun Q' hf hq => ?_
  exact ⟨by rw [← r1.len]; exact big_le hf.1, fun p H2 hp g h2 => finM st1.wf hq r1 hp g h2 hf.2⟩
end
end A

set_option Elab.async false
set_option linter.all false
set_option maxRecDepth 100000
set_option maxHeartbeats 4000000
namespace A
open PySem PySem.Spec PyProof.Rows L2
/-! ### calls of built-ins -/
abbrev FN := List D → Sto → QD → Prop
def CallS (c : Cg) (f : FN) (r : List V → Hp → VK → Prop) : Prop := ∀ (w : Wd) (S : Sto) (H : Hp) (ds : List D) (xs : List V) (Q' : QD) (Q : VK), Wf c w S H → RelL c w S.length H ds xs → f ds S Q' →
  (∀ w' S' H' a b, Stp w S.length H w' S'.length H' → Wf c w' S' H' → Rel c w' S'.length H' a b → Q' a S' → Q b H') → r xs H Q
def aCB (f : FN) (t : AM (List D)) : AM D := aBind t fun xs => fun _ S Q _ => f xs S Q
section
variable {X : Cx} {n : Cn} {e o : Expr} {es : List Expr} {t : AM (List D)} {ta tb : AM D} {pos p apos : Pos} {x : Str} {id : String} {f : FN} {r : List V → Hp → VK → Prop}
theorem up_cb (hs : CallS n.c f r) {σ : L2.St} {H : Hp} {Q : VK} (h : upE n (aCB f t) σ H Q) : tCB r (upA n t) σ H Q := by
  obtain ⟨w, ρ, S, st, h⟩ := h
  refine (upW.bind st h).mono ?_
  rintro xs H1 ⟨w1, S1, d, st1, _, r1, h1⟩
  exact h1.op fun Q' hf hq => hs w1 S1 H1 d xs Q' Q st1.wf r1 hf hq
theorem j_callB (hc : CallR X (.builtin id) r) (hs : CallS n.c f r) (hg : Gl X x) (hm : X.mg x = none) (hv : bootBuiltins x = some (.builtin id)) (ha : JA X n (e :: es) t) (hn : x ≠ "__name__" := by decide) (hdb : (x == ("__debug__" : Str)) = false := by decide)
    (he : starEach (e :: es) X.env = (false, eval e X.env) :: starEach es X.env := by rfl) (hpl : (backTo pos (starEach es X.env)).any (·.1) = false := by rfl) : JE X n (.Call (.Name x p) (e :: es) [] pos) (aCB f t) :=
  PE.imp (pe_callB hc hg hm hv ha hn hdb he hpl) fun _ _ _ h => up_cb hs h
theorem j_callTy (hc : CallR X (.type id) r) (hs : CallS n.c f r) (hg : Gl X x) (hm : X.mg x = none) (hv : bootBuiltins x = some (.type id)) (ha : JA X n (e :: es) t) (hn : x ≠ "__name__" := by decide) (hdb : (x == ("__debug__" : Str)) = false := by decide)
    (he : starEach (e :: es) X.env = (false, eval e X.env) :: starEach es X.env := by rfl) (hpl : (backTo pos (starEach es X.env)).any (·.1) = false := by rfl) : JE X n (.Call (.Name x p) (e :: es) [] pos) (aCB f t) :=
  PE.imp (pe_callTy hc hg hm hv ha hn hdb he hpl) fun _ _ _ h => up_cb hs h
end
section
variable {c : Cg}
def one1 : List D → Option D
  | [d] => some d
  | _ => none
def two2 : List D → Option (D × D)
  | [d, e] => some (d, e)
  | _ => none
theorem one_rel {w : Wd} {N : Nat} {H : Hp} {ds : List D} {xs : List V} {d : D} (h : one1 ds = some d) (r : RelL c w N H ds xs) : ∃ x, xs = [x] ∧ Rel c w N H d x := by
  match ds, h, r with
  | [d'], h, .cons r .nil =>
    simp [one1] at h
    subst h
    exact ⟨_, rfl, r⟩
theorem two_rel {w : Wd} {N : Nat} {H : Hp} {ds : List D} {xs : List V} {d : D × D} (h : two2 ds = some d) (r : RelL c w N H ds xs) : ∃ x y, xs = [x, y] ∧ Rel c w N H d.1 x ∧ Rel c w N H d.2 y := by
  match ds, h, r with
  | [d1, d2], h, .cons r (.cons r' .nil) =>
    simp [two2] at h
    subst h
    exact ⟨_, _, rfl, r, r'⟩
def fLen : FN := fun ds S Q => opt (one1 ds) fun d => opt (sv S d) fun xs => Q (.int xs.length) S
theorem cs_len : CallS c fLen (fun xs H Q => ∃ p ys, xs = [.ref p] ∧ (SqL c.K H p ys ∨ SqT c.K H p ys) ∧ Q (.int ys.length) H) := by
  intro w S H ds xs Q' Q f r h k
  obtain ⟨d, e1, h⟩ := opt_some h
  obtain ⟨ys, e2, q⟩ := opt_some h
  obtain ⟨x, rfl, r1⟩ := one_rel e1 r
  obtain ⟨a, vs, rfl, ha, la⟩ := sv_rel f e2 r1
  refine ⟨a, vs, rfl, ha, ?_⟩
  rw [← la.len]
  exact fin0 f k (.int _) q
def asInt : D → Option Int
  | .int i => some i
  | .bl b => some (if b then 1 else 0)
  | _ => none
def fInt : FN := fun ds S Q => opt (one1 ds) fun d => opt (asInt d) fun i => Q (.int i) S
theorem cs_int : CallS c fInt (fun xs H Q => (∃ i, xs = [.int i] ∧ Q (.int i) H) ∨ ∃ k, xs = [.bl k] ∧ Q (.int (if k then 1 else 0)) H) := by
  intro w S H ds xs Q' Q f r h k
  obtain ⟨d, e1, h⟩ := opt_some h
  obtain ⟨i, e2, q⟩ := opt_some h
  obtain ⟨x, rfl, r1⟩ := one_rel e1 r
  cases d <;> simp [asInt] at e2
  · subst e2; cases r1; exact .inr ⟨_, rfl, fin0 f k (.int _) q⟩
  · subst e2; cases r1; exact .inl ⟨_, rfl, fin0 f k (.int _) q⟩
def fAbs : FN := fun ds S Q => opt (one1 ds) fun d => opt (asI d) fun i => Q (.int (if i < 0 then -i else i)) S
theorem cs_abs : CallS c fAbs (fun xs H Q => ∃ i, xs = [.int i] ∧ Q (.int (if i < 0 then -i else i)) H) := by
  intro w S H ds xs Q' Q f r h k
  obtain ⟨d, e1, h⟩ := opt_some h
  obtain ⟨i, e2, q⟩ := opt_some h
  obtain ⟨x, rfl, r1⟩ := one_rel e1 r
  obtain ⟨rfl, rfl⟩ := asI_rel e2 r1
  exact ⟨_, rfl, fin0 f k (.int _) q⟩
def fI2 (g : Int → Int → Int) : FN := fun ds S Q => opt (two2 ds) fun d => opt (asI d.1) fun i => opt (asI d.2) fun j => Q (.int (g i j)) S
theorem cs_I2 {g : Int → Int → Int} : CallS c (fI2 g) (fun xs H Q => ∃ i j, xs = [.int i, .int j] ∧ Q (.int (g i j)) H) := by
  intro w S H ds xs Q' Q f r h k
  obtain ⟨d, e1, h⟩ := opt_some h
  obtain ⟨i, e2, h⟩ := opt_some h
  obtain ⟨j, e3, q⟩ := opt_some h
  obtain ⟨x, y, rfl, r1, r2⟩ := two_rel e1 r
  obtain ⟨_, rfl⟩ := asI_rel e2 r1
  obtain ⟨_, rfl⟩ := asI_rel e3 r2
  exact ⟨_, _, rfl, fin0 f k (.int _) q⟩
def fMax2 : FN := fI2 fun i j => if j > i then j else i
def fMin2 : FN := fI2 fun i j => if j < i then j else i
theorem cs_max2 : CallS c fMax2 (fun xs H Q => ∃ i j, xs = [.int i, .int j] ∧ Q (.int (if j > i then j else i)) H) := cs_I2
theorem cs_min2 : CallS c fMin2 (fun xs H Q => ∃ i j, xs = [.int i, .int j] ∧ Q (.int (if j < i then j else i)) H) := cs_I2
/-- all the ints of a list -/
def intsOf (S : Sto) (d : D) : Option (List Int) := (lv S d).bind intsD
theorem intsOf_rel {w : Wd} {S : Sto} {H : Hp} {d : D} {x : V} {ns : List Int} (f : Wf c w S H) (h : intsOf S d = some ns) (r : Rel c w S.length H d x) : ∃ a, x = .ref a ∧ SqL c.K H a (ns.map V.int) := by
  unfold intsOf at h
  obtain ⟨xs, e1, e2⟩ := Option.bind_eq_some_iff.mp h
  obtain ⟨a, vs, rfl, ha, la⟩ := lv_rel f e1 r
  rw [ints_rel e2 la] at ha
  exact ⟨a, rfl, SqL.of ha⟩
def minL : List Int → Int
  | [] => 0
  | [a] => a
  | a :: b :: r => let m := minL (b :: r); if m < a then m else a
theorem minL_mem : ∀ {ns : List Int}, ns ≠ [] → minL ns ∈ ns
  | [a], _ => by simp [minL]
  | a :: b :: r, _ => by
    have h := minL_mem (ns := b :: r) (by simp)
    simp only [minL]
    split
    · exact List.mem_cons_of_mem _ h
    · exact List.mem_cons_self ..
theorem minL_le : ∀ {ns : List Int} {y : Int}, y ∈ ns → minL ns ≤ y
  | [a], y, h => by simp at h; subst h; exact Int.le_refl _
  | a :: b :: r, y, h => by
    simp only [minL]
    rcases List.mem_cons.mp h with rfl | h
    · split <;> omega
    · have := minL_le (ns := b :: r) h
      split <;> omega
def fMin1 : FN := fun ds S Q => opt (one1 ds) fun d => opt (intsOf S d) fun ns => ns ≠ [] ∧ Q (.int (minL ns)) S
theorem cs_min1 : CallS c fMin1 (rMin c.K) := by
  intro w S H ds xs Q' Q f r h k
  obtain ⟨d, e1, h⟩ := opt_some h
  obtain ⟨ns, e2, hn, q⟩ := opt_some h
  obtain ⟨x, rfl, r1⟩ := one_rel e1 r
  obtain ⟨a, rfl, ha⟩ := intsOf_rel f e2 r1
  refine ⟨a, ns, rfl, ha, List.length_pos_iff.mpr hn, fun m hm hle => ?_⟩
  have e : m = minL ns := Int.le_antisymm (hle _ (minL_mem hn)) (minL_le hm)
  rw [e]
  exact fin0 f k (.int _) q
def fSum : FN := fun ds S Q => opt (one1 ds) fun d => opt (intsOf S d) fun ns => Q (.int ns.sum) S
theorem cs_sum : CallS c fSum (rSum c.K) := by
  intro w S H ds xs Q' Q f r h k
  obtain ⟨d, e1, h⟩ := opt_some h
  obtain ⟨ns, e2, q⟩ := opt_some h
  obtain ⟨x, rfl, r1⟩ := one_rel e1 r
  obtain ⟨a, rfl, ha⟩ := intsOf_rel f e2 r1
  exact ⟨a, ns, rfl, ha, fin0 f k (.int _) q⟩
def boolsOf (S : Sto) (d : D) : Option (List Bool) := (lv S d).bind boolsD
theorem boolsOf_rel {w : Wd} {S : Sto} {H : Hp} {d : D} {x : V} {ns : List Bool} (f : Wf c w S H) (h : boolsOf S d = some ns) (r : Rel c w S.length H d x) : ∃ a, x = .ref a ∧ SqL c.K H a (ns.map V.bl) := by
  unfold boolsOf at h
  obtain ⟨xs, e1, e2⟩ := Option.bind_eq_some_iff.mp h
  obtain ⟨a, vs, rfl, ha, la⟩ := lv_rel f e1 r
  rw [bools_rel e2 la] at ha
  exact ⟨a, rfl, SqL.of ha⟩
def fAny : FN := fun ds S Q => opt (one1 ds) fun d => opt (boolsOf S d) fun bs => Q (.bl (bs.any id)) S
def fAll : FN := fun ds S Q => opt (one1 ds) fun d => opt (boolsOf S d) fun bs => Q (.bl (bs.all id)) S
theorem cs_any : CallS c fAny (rAny c.K) := by
  intro w S H ds xs Q' Q f r h k
  obtain ⟨d, e1, h⟩ := opt_some h
  obtain ⟨ns, e2, q⟩ := opt_some h
  obtain ⟨x, rfl, r1⟩ := one_rel e1 r
  obtain ⟨a, rfl, ha⟩ := boolsOf_rel f e2 r1
  exact ⟨a, ns, rfl, ha, fin0 f k (.bl _) q⟩
theorem cs_all : CallS c fAll (rAll c.K) := by
  intro w S H ds xs Q' Q f r h k
  obtain ⟨d, e1, h⟩ := opt_some h
  obtain ⟨ns, e2, q⟩ := opt_some h
  obtain ⟨x, rfl, r1⟩ := one_rel e1 r
  obtain ⟨a, rfl, ha⟩ := boolsOf_rel f e2 r1
  exact ⟨a, ns, rfl, ha, fin0 f k (.bl _) q⟩
def fList : FN := fun ds S Q => opt (one1 ds) fun d => opt (sv S d) fun xs => Q (.lst xs) S
def fListM : FN := fun ds S Q => opt (one1 ds) fun d => opt (sv S d) fun xs => Q (.ref S.length) (S ++ [.lst xs])
def fTuple : FN := fun ds S Q => opt (one1 ds) fun d => opt (sv S d) fun xs => Q (.tup xs) S
theorem cs_list : CallS c fList (fun xs H Q => ∃ p ys, xs = [.ref p] ∧ (SqL c.K H p ys ∨ SqT c.K H p ys) ∧ NewA H (.lst ys) Q) := by
  intro w S H ds xs Q' Q f r h k
  obtain ⟨d, e1, h⟩ := opt_some h
  obtain ⟨ys, e2, q⟩ := opt_some h
  obtain ⟨x, rfl, r1⟩ := one_rel e1 r
  obtain ⟨a, vs, rfl, ha, la⟩ := sv_rel f e2 r1
  exact ⟨a, vs, rfl, ha, fun p H2 hp g h2 => finL f k la hp g h2 q⟩
theorem cs_listM : CallS c fListM (fun xs H Q => ∃ p ys, xs = [.ref p] ∧ (SqL c.K H p ys ∨ SqT c.K H p ys) ∧ NewA H (.lst ys) Q) := by
  intro w S H ds xs Q' Q f r h k
  obtain ⟨d, e1, h⟩ := opt_some h
  obtain ⟨ys, e2, q⟩ := opt_some h
  obtain ⟨x, rfl, r1⟩ := one_rel e1 r
  obtain ⟨a, vs, rfl, ha, la⟩ := sv_rel f e2 r1
  exact ⟨a, vs, rfl, ha, fun p H2 hp g h2 => finM f k la hp g h2 q⟩
theorem cs_tuple : CallS c fTuple (fun xs H Q => ∃ p ys, xs = [.ref p] ∧ (SqL c.K H p ys ∨ SqT c.K H p ys) ∧ ∀ t H2, Same H H2 → SqT c.K H2 t ys → Q (.ref t) H2) := by
  intro w S H ds xs Q' Q f r h k
  obtain ⟨d, e1, h⟩ := opt_some h
  obtain ⟨ys, e2, q⟩ := opt_some h
  obtain ⟨x, rfl, r1⟩ := one_rel e1 r
  obtain ⟨a, vs, rfl, ha, la⟩ := sv_rel f e2 r1
  exact ⟨a, vs, rfl, ha, fun p H2 g h2 => finT f k la g h2 q⟩
def asBool : D → Option Bool
  | .int i => some (i != 0)
  | .bl b => some b
  | _ => none
def fBool : FN := fun ds S Q => opt (one1 ds) fun d => opt (asBool d) fun i => Q (.bl i) S
theorem cs_bool : CallS c fBool (fun xs H Q => (∃ i, xs = [.int i] ∧ Q (.bl (i != 0)) H) ∨ ∃ k, xs = [.bl k] ∧ Q (.bl k) H) := by
  intro w S H ds xs Q' Q f r h k
  obtain ⟨d, e1, h⟩ := opt_some h
  obtain ⟨i, e2, q⟩ := opt_some h
  obtain ⟨x, rfl, r1⟩ := one_rel e1 r
  cases d <;> simp [asBool] at e2
  · subst e2; cases r1; exact .inr ⟨_, rfl, fin0 f k (.bl _) q⟩
  · subst e2; cases r1; exact .inl ⟨_, rfl, fin0 f k (.bl _) q⟩
/-! isinstance of a built-in type -/
/-- the name of a thing's built-in type -/
def tyN (S : Sto) : D → Option String
  | .non => some "NoneType"
  | .bl _ => some "bool"
  | .int _ => some "int"
  | .str _ => some "str"
  | .tup _ => some "tuple"
  | .lst _ => some "list"
  | .scr _ => some "list"
  | .ref n => match S[n]? with
    | some (.lst _) => some "list"
    | some (.dct _) => some "dict"
    | _ => none
  | _ => none
def asTy : D → Option String
  | .ty n => some n
  | _ => none
def tyKnown : List String := ["int", "bool", "str", "tuple", "list", "dict"]
def subTy (a b : String) : Bool := a == b || (a == "bool" && b == "int")
theorem subTy_kit {a b : String} (ha : a ∈ "NoneType" :: tyKnown) (hb : b ∈ tyKnown) : kitB a b = some (subTy a b) := by
  simp only [tyKnown, List.mem_cons, List.not_mem_nil, or_false] at ha hb
  rcases ha with rfl | rfl | rfl | rfl | rfl | rfl | rfl <;> rcases hb with rfl | rfl | rfl | rfl | rfl | rfl <;> decide +kernel
theorem tyN_rel {w : Wd} {S : Sto} {H : Hp} {d : D} {x : V} {a : String} (f : Wf c w S H) (h : tyN S d = some a) (r : Rel c w S.length H d x) : TyX c.K H x (.type a) ∧ a ∈ "NoneType" :: tyKnown := by
  cases r with
  | non => simp [tyN] at h; subst h; exact ⟨.base .non, by decide⟩
  | bl b => simp [tyN] at h; subst h; exact ⟨.base (.bl b), by decide⟩
  | int b => simp [tyN] at h; subst h; exact ⟨.base (.int b), by decide⟩
  | str b => simp [tyN] at h; subst h; exact ⟨.base (.str b), by decide⟩
  | tup h1 _ => simp [tyN] at h; subst h; exact ⟨tyT h1, by decide⟩
  | lst h1 _ _ => simp [tyN] at h; subst h; exact ⟨.base (.lst h1), by decide⟩
  | scr h1 => simp [tyN] at h; subst h; exact ⟨tyL (scr_sq h1), by decide⟩
  | @ref n hn =>
    simp only [tyN] at h
    cases e : S[n]? with
    | none => rw [e] at h; cases h
    | some o =>
      rw [e] at h
      cases o with
      | lst ys =>
        cases h
        obtain ⟨vs, h1, h2⟩ := f.obj n _ e
        exact ⟨.base (.lst h1), by decide⟩
      | ins C fs => cases h
      | dct kvs =>
        cases h
        obtain ⟨vs, h1, h2⟩ := f.obj n _ e
        exact ⟨.base (.dK h1), by decide⟩
  | _ => simp [tyN] at h
def fIsi : FN := fun ds S Q => opt (two2 ds) fun d => opt (tyN S d.1) fun a => opt (asTy d.2) fun b => b ∈ tyKnown ∧ Q (.bl (subTy a b)) S
theorem cs_isi : CallS c fIsi (rIsi c.K) := by
  intro w S H ds xs Q' Q f r h k
  obtain ⟨d, e1, h⟩ := opt_some h
  obtain ⟨a, e2, h⟩ := opt_some h
  obtain ⟨b, e3, hb, q⟩ := opt_some h
  obtain ⟨x, y, rfl, r1, r2⟩ := two_rel e1 r
  obtain ⟨d1, d2⟩ := d
  obtain ⟨ty, ha⟩ := tyN_rel f e2 r1
  cases d2 <;> simp [asTy] at e3
  subst e3
  cases r2
  exact isi_at ty (subTy_kit ha hb) (fin0 f k (.bl _) q)
/-- isinstance(x, (T1, T2)) -/
def tysOf : D → Option (List String)
  | .tup xs => xs.mapM asTy
  | _ => none
def fIsiT : FN := fun ds S Q => opt (two2 ds) fun d => opt (tyN S d.1) fun a => opt (tysOf d.2) fun bs => (∀ b ∈ bs, b ∈ tyKnown) ∧ Q (.bl (bs.any fun b => subTy a b)) S
end
end A

set_option Elab.async false
set_option linter.all false
set_option maxRecDepth 100000
set_option maxHeartbeats 4000000
namespace A
open PySem PySem.Spec PyProof.Rows L2
/-! ### what defs promise -/
abbrev ASp := List D → Sto → QD → XQ → Prop
def upSp (c : Cg) (sp : ASp) : Sp := fun vs H Q E => ∃ (w : Wd) (S : Sto) (ds : List D) (Q' : QD) (E' : XQ), Wf c w S H ∧ RelL c w S.length H ds vs ∧ sp ds S Q' E' ∧
  (∀ w' S' H' d v, Stp w S.length H w' S'.length H' → Wf c w' S' H' → Rel c w' S'.length H' d v → Q' d S' → Q v H') ∧
  ∀ w' S' H' x cls d, Stp w S.length H w' S'.length H' → Wf c w' S' H' → RelX c w' S'.length H' x cls d → E' x S' → E cls d H'
theorem upSp.of {c : Cg} {W : WX} {sp : ASp} {ds : List D} {vs : List V} {w : Wd} {ρ : Ev} {S : Sto} {σ : L2.St} {H : Hp} {Q : VK} (h : upW c W (Rel c) (fun _ S Q E => sp ds S Q E) w ρ S σ H Q) (f : Wf c w S H) (r : RelL c w S.length H ds vs) : upSp c sp vs H Q (WE W σ) := by
  obtain ⟨Q', E', ht, hq, he⟩ := h
  exact ⟨w, S, ds, Q', E', f, r, ht, hq, he⟩
def aCall (sp : ASp) (t : AM (List D)) : AM D := aBind t fun ds => fun _ S Q E => sp ds S Q E
/-- the attributes of an instance of C -/
def insOf (S : Sto) (d : D) (C : Str) : Option (List (Str × D)) := match d with
  | .obj C' ns vs => if C' = C then some (ns.zip vs) else none
  | .ref n => match S[n]? with
    | some (.ins C' fs) => if C' = C then some fs else none
    | _ => none
  | _ => none
theorem zip_fst {ns : List Str} : ∀ {vs : List D}, ns.length = vs.length → (ns.zip vs).map (·.1) = ns ∧ (ns.zip vs).map (·.2) = vs := fun {vs} h => ⟨List.map_fst_zip (by omega), List.map_snd_zip (by omega)⟩
theorem insOf_rel {c : Cg} {w : Wd} {S : Sto} {H : Hp} {d : D} {x : V} {C : Str} {fs : List (Str × D)} (f : Wf c w S H) (h : insOf S d C = some fs) (r : Rel c w S.length H d x) :
    ∃ a dx fs', x = .ref a ∧ H a = some (.ins (c.cA C) dx fs') ∧ fs'.map (·.1) = fs.map (·.1) ∧ RelL c w S.length H (fs.map (·.2)) (fs'.map (·.2)) := by
  cases r with
  | @obj a dx C' ns ds fs' h1 h2 hn hs =>
    simp only [insOf] at h
    split at h
    · rename_i e
      cases h
      subst e
      have hl : ns.length = ds.length := by rw [hs.len, ← hn]; simp
      obtain ⟨z1, z2⟩ := zip_fst hl
      exact ⟨a, dx, fs', rfl, h1, by rw [z1]; exact hn, by rw [z2]; exact hs⟩
    · cases h
  | @ref n hn =>
    simp only [insOf] at h
    cases e : S[n]? with
    | none => rw [e] at h; cases h
    | some o =>
      rw [e] at h
      cases o with
      | ins C' fs' =>
        simp only at h
        split at h
        · rename_i e'
          cases h
          subst e'
          obtain ⟨dx, fs', h1, h2, h3⟩ := f.obj n _ e
          exact ⟨_, dx, fs', rfl, h1, h2, h3⟩
        · cases h
      | lst ys => cases h
      | dct kvs => cases h
  | _ => simp [insOf] at h
theorem lookup_rel {c : Cg} {w : Wd} {N : Nat} {H : Hp} {f : Str} : ∀ {fs : List (Str × D)} {fs' : List (Str × V)}, fs'.map (·.1) = fs.map (·.1) → RelL c w N H (fs.map (·.2)) (fs'.map (·.2)) →
    (fs.lookup f = none → fs'.lookup f = none) ∧ ∀ d, fs.lookup f = some d → ∃ v, fs'.lookup f = some v ∧ Rel c w N H d v
  | [], [], _, _ => ⟨fun _ => rfl, fun d h => by simp at h⟩
  | [], _ :: _, h, _ => by simp at h
  | _ :: _, [], h, _ => by simp at h
  | (k, d) :: fs, (k', v) :: fs', h, r => by
    simp only [List.map_cons, List.cons.injEq] at h
    obtain ⟨rfl, h⟩ := h
    simp only [List.map_cons] at r
    cases r with
    | cons r rs =>
      obtain ⟨i1, i2⟩ := lookup_rel (f := f) h rs
      simp only [List.lookup_cons]
      cases hb : f == k' with
      | true => exact ⟨fun z => by simp at z, fun d' z => by simp at z; subst z; exact ⟨v, rfl, r⟩⟩
      | false => exact ⟨i1, i2⟩
def FldOk (c : Cg) (C f : Str) : Prop := Cls c.K (c.cA C) ∧ NoAttr c.K (c.cA C) f
def aFld (C f : Str) (ta : AM D) : AM D := aBind ta fun d => fun _ S Q _ => opt (insOf S d C) fun fs => opt (fs.lookup f) fun v => Q v S
def aMe (C m : Str) (sp : ASp) (ta : AM D) (t : AM (List D)) : AM D := aBind ta fun d => fun ρ S Q E => opt (insOf S d C) fun fs => fs.lookup m = none ∧ aBind t (fun ds => fun _ S Q E => sp (d :: ds) S Q E) ρ S Q E
def aPr (C : Str) (sp : ASp) (ta : AM D) : AM D := aBind ta fun d => fun _ S Q _ => opt (insOf S d C) fun _ => sp [d] S Q fun _ _ => False
def aMk (C : Str) (sp : ASp) (t : AM (List D)) : AM D := aBind t fun ds => fun _ S Q E => sp (.ref S.length :: ds) (S ++ [.ins C []]) (fun v S' => v = .non ∧ Q (.ref S.length) S') E
section
variable {X : Cx} {n : Cn} {k r : Nat} {sp : ASp} {x m C f : Str} {p pos apos : Pos} {e o : Expr} {es : List Expr} {ta : AM D} {t : AM (List D)}
theorem up_call {σ : L2.St} {H : Hp} {Q : VK} (h : upE n (aCall sp t) σ H Q) : tCallS (upSp n.c sp) (WE n.W) (upA n t) σ H Q := by
  obtain ⟨w, ρ, S, st, h⟩ := h
  refine (upW.bind st h).mono ?_
  rintro vs H1 ⟨w1, S1, ds, st1, _, r1, h1⟩
  exact upSp.of h1 st1.wf r1
theorem j_fc (c : Fnc X.prog X.w X.K X.mg X.base k x (upSp n.c sp)) (hr : Room r X.A) (hk : k ≤ r) (hg : Gl X x) (hx : ∀ σ, PassesAt (L2N.CX X.prog X.w) X σ (WE n.W σ)) (ha : JA X n (e :: es) t)
    (hdb : (x == ("__debug__" : Str)) = false := by decide) (he : starEach (e :: es) X.env = (false, eval e X.env) :: starEach es X.env := by rfl) (hpl : (backTo pos (starEach es X.env)).any (·.1) = false := by rfl) :
    JE X n (.Call (.Name x p) (e :: es) [] pos) (aCall sp t) := PE.imp (pe_fc c hr hk hg hx ha hdb he hpl) fun _ _ _ h => up_call h
theorem j_fc0 (c : Fnc X.prog X.w X.K X.mg X.base k x (upSp n.c sp)) (hr : Room r X.A) (hk : k ≤ r) (hg : Gl X x) (hx : ∀ σ, PassesAt (L2N.CX X.prog X.w) X σ (WE n.W σ))
    (hdb : (x == ("__debug__" : Str)) = false := by decide) : JE X n (.Call (.Name x p) [] [] pos) (aCall sp aNil) := PE.imp (pe_fc0 c hr hk hg hx hdb) fun σ H Q ⟨w, ρ, S, st, h⟩ => upSp.of (ds := []) h st.wf .nil
theorem j_fld (T : FldOk n.c C f) (he : JE X n e ta) (hb : attributeBase e f X.env (eval e X.env) = eval e X.env) (hK : X.K = n.c.K := by rfl) : JE X n (.Attribute e f pos) (aFld C f ta) := PE.imp (pe_fld he hb) fun σ H Q ⟨w, ρ, S, st, h⟩ => by
  refine (upW.bind st h).mono ?_
  rintro v H1 ⟨w1, S1, d, st1, _, r1, h1⟩
  refine h1.op fun Q' hf hq => ?_
  obtain ⟨fs, e1, hf⟩ := opt_some hf
  obtain ⟨y, e2, q⟩ := opt_some hf
  obtain ⟨a, dx, fs', rfl, ha, hn, hs⟩ := insOf_rel st1.wf e1 r1
  obtain ⟨u, hu, ru⟩ := (lookup_rel hn hs).2 y e2
  rw [hK]
  exact ⟨a, _, dx, fs', u, rfl, ha, T.1, T.2, hu, fin0 st1.wf hq ru q⟩
theorem up_me {σ : L2.St} {H : Hp} {Q : VK} (h : upE n (aMe C m sp ta t) σ H Q) : tMtd (n.c.cA C) m (upSp n.c sp) (WE n.W) (upE n ta) (upA n t) σ H Q := by
  obtain ⟨w, ρ, S, st, h⟩ := h
  refine (upW.bind st h).mono ?_
  rintro v H1 ⟨w1, S1, d, st1, _, r1, Q', E', ht, hq, he⟩
  obtain ⟨fs, e1, hl, ht⟩ := opt_some ht
  obtain ⟨a, dx, fs', rfl, ha, hn, hs⟩ := insOf_rel st1.wf e1 r1
  refine ⟨a, dx, fs', rfl, ha, (lookup_rel hn hs).1 hl, ?_⟩
  have h1 : upW n.c n.W (Rel n.c) (aBind t (fun ds => fun _ S Q E => sp (d :: ds) S Q E)) w1 ρ S1 σ H1 Q := ⟨Q', E', ht, hq, he⟩
  refine (upW.bind st1 h1).mono ?_
  rintro vs H2 ⟨w2, S2, ds, st2, s2, r2, h2⟩
  exact upSp.of h2 st2.wf (.cons (r1.stp s2) r2)
theorem j_me {pl : Sem Bool} (c : Mtd X.prog X.w X.K X.mg X.base k (n.c.cA C) m (upSp n.c sp)) (hr : Room r X.A) (hk : k ≤ r) (hx : ∀ σ, PassesAt (L2N.CX X.prog X.w) X σ (WE n.W σ)) (he : JE X n o ta) (ha : JA X n (e :: es) t)
    (hst : starEach (e :: es) X.env = (false, eval e X.env) :: starEach es X.env := by rfl) (hpl : (backTo pos (starEach es X.env)).any (·.1) = false := by rfl)
    (ht : eval (.Call (.Attribute o m apos) (e :: es) [] pos) X.env = (do
      let ov ← eval o X.env
      standAt apos.atName
      let (f, first) ← holding [ov] (getMethod ov m pl)
      callWith pos f first (backTo pos (starEach (e :: es) X.env)) (backToKw pos (keywordEach [] X.env))) := by rfl) :
    JE X n (.Call (.Attribute o m apos) (e :: es) [] pos) (aMe C m sp ta t) := PE.imp (pe_me c hr hk hx he ha hst hpl ht) fun _ _ _ h => up_me h
theorem j_me0 {pl : Sem Bool} (c : Mtd X.prog X.w X.K X.mg X.base k (n.c.cA C) m (upSp n.c sp)) (hr : Room r X.A) (hk : k ≤ r) (hx : ∀ σ, PassesAt (L2N.CX X.prog X.w) X σ (WE n.W σ)) (he : JE X n o ta)
    (ht : eval (.Call (.Attribute o m apos) [] [] pos) X.env = (do
      let ov ← eval o X.env
      standAt apos.atName
      let (f, first) ← holding [ov] (getMethod ov m pl)
      callWith pos f first (backTo pos (starEach [] X.env)) (backToKw pos (keywordEach [] X.env))) := by rfl) :
    JE X n (.Call (.Attribute o m apos) [] [] pos) (aMe C m sp ta aNil) := PE.imp (pe_me0 c hr hk hx he ht) fun σ H Q h => by
  have := up_me h
  refine this.mono ?_
  rintro v H1 ⟨a, dx, fs, e1, e2, e3, w, ρ, S, st, h⟩
  exact ⟨a, dx, fs, e1, e2, e3, h.fin st.wf .nil⟩
theorem j_pr (c : Prp X.prog X.w X.K X.mg X.base k (n.c.cA C) m (upSp n.c sp)) (hr : Room r X.A) (hk : k + 1 ≤ r) (he : JE X n o ta) (hab : attributeBase o m X.env (eval o X.env) = eval o X.env := by rfl) : JE X n (.Attribute o m pos) (aPr C sp ta) :=
  PE.imp (pe_pr c hr hk he hab) fun σ H Q ⟨w, ρ, S, st, h⟩ => by
  refine (upW.bind st h).mono ?_
  rintro v H1 ⟨w1, S1, d, st1, _, r1, Q', E', ht, hq, he⟩
  obtain ⟨fs, e1, ht⟩ := opt_some ht
  obtain ⟨a, dx, fs', rfl, ha, hn, hs⟩ := insOf_rel st1.wf e1 r1
  exact ⟨⟨a, dx, fs', rfl, ha⟩, w1, S1, [d], Q', _, st1.wf, .cons r1 .nil, ht, hq, fun _ _ _ _ _ _ _ _ _ z => z⟩
theorem up_mk {σ : L2.St} {H : Hp} {Q : VK} (h : upE n (aMk C sp t) σ H Q) : tMkr (n.c.cA C) (upSp n.c sp) (WE n.W) (upA n t) σ H Q := by
  obtain ⟨w, ρ, S, st, h⟩ := h
  refine (upW.bind st h).mono ?_
  rintro vs H1 ⟨w1, S1, ds, st1, _, r1, Q', E', ht, hq, he⟩ y dx hy hdx hne
  have g : Same H1 (upd (upd H1 dx (.own y)) y (.ins (n.c.cA C) dx [])) := fun b u q => by
    rw [upd_ne (ne_of_none q hy), upd_ne (ne_of_none q hdx)]; exact q
  have s := Stp.push (w := w1) (N := S1.length) hy g
  have len : (S1 ++ [O.ins C []]).length = S1.length + 1 := by simp
  have e : (w1.push S1.length y).i S1.length = y := if_pos rfl
  have f2 : Wf n.c (w1.push S1.length y) (S1 ++ [.ins C []]) (upd (upd H1 dx (.own y)) y (.ins (n.c.cA C) dx [])) := st1.wf.push (o := .ins C []) hy g ⟨dx, [], upd_same, rfl, .nil⟩
  have rs : Rel n.c (w1.push S1.length y) (S1 ++ [O.ins C []]).length (upd (upd H1 dx (.own y)) y (.ins (n.c.cA C) dx [])) (.ref S1.length) (.ref y) := by
    rw [len]
    have := Rel.ref (c := n.c) (w := w1.push S1.length y) (N := S1.length + 1) (H := upd (upd H1 dx (.own y)) y (.ins (n.c.cA C) dx [])) (n := S1.length) (Nat.lt_succ_self _)
    rw [e] at this
    exact this
  rw [← len] at s
  refine ⟨_, _, .ref S1.length :: ds, _, E', f2, .cons rs (r1.stp s), ht, ?_, ?_⟩
  · rintro w' S' H' d v s' f' rd ⟨rfl, q⟩
    cases rd
    exact ⟨rfl, hq w' S' H' _ _ (s.trans s') f' (rs.stp s') q⟩
  · intro w' S' H' x cls d s' f' rx q
    exact he w' S' H' x cls d (s.trans s') f' rx q
theorem j_nw (c : Mkr X.prog X.w X.K X.mg X.base k x (n.c.cA C) (upSp n.c sp)) (hr : Room r X.A) (hk : k + 1 ≤ r) (hg : Gl X x) (hx : ∀ σ, PassesAt (L2N.CX X.prog X.w) X σ (WE n.W σ)) (ha : JA X n (e :: es) t)
    (hdb : (x == ("__debug__" : Str)) = false := by decide) (he : starEach (e :: es) X.env = (false, eval e X.env) :: starEach es X.env := by rfl) (hpl : (backTo pos (starEach es X.env)).any (·.1) = false := by rfl) :
    JE X n (.Call (.Name x p) (e :: es) [] pos) (aMk C sp t) := PE.imp (pe_nw c hr hk hg hx ha hdb he hpl) fun _ _ _ h => up_mk h
end
/-! ### what is behind N may go -/
mutual
def cl (N : Nat) : D → Bool
  | .ref n => decide (n < N)
  | .tup xs => cls N xs
  | .lst xs => cls N xs
  | .obj _ _ vs => cls N vs
  | _ => true
def cls (N : Nat) : List D → Bool
  | [] => true
  | d :: r => cl N d && cls N r
end
section
variable {c : Cg} {w w0 : Wd} {N N' : Nat} {H : Hp}
mutual
theorem Rel.clsd : ∀ {d : D} {v : V}, Rel c w N H d v → A.cl N d = true
  | _, _, .non => rfl
  | _, _, .bl b => rfl
  | _, _, .int i => rfl
  | _, _, .str x => rfl
  | _, _, .ty n => rfl
  | _, _, .cl C => rfl
  | _, _, .adr v => rfl
  | _, _, .scr _ => rfl
  | _, _, .ref h => by simp [A.cl, h]
  | _, _, .tup h hs => by simp only [A.cl]; exact RelL.clsd hs
  | _, _, .lst h r hs => by simp only [A.cl]; exact RelL.clsd hs
  | _, _, .obj h r hn hs => by simp only [A.cl]; exact RelL.clsd hs
theorem RelL.clsd : ∀ {ds : List D} {vs : List V}, RelL c w N H ds vs → A.cls N ds = true
  | _, _, .nil => rfl
  | _, _, .cons h hs => by simp [A.cls, Rel.clsd h, RelL.clsd hs]
end
mutual
theorem Rel.cut (hR : ∀ a, w0.R a → w.R a) (hi : ∀ n, n < N → w.i n = w0.i n) : ∀ {d : D} {v : V}, A.cl N d = true → Rel c w N' H d v → Rel c w0 N H d v
  | _, _, _, .non => .non
  | _, _, _, .bl b => .bl b
  | _, _, _, .int i => .int i
  | _, _, _, .str x => .str x
  | _, _, _, .ty n => .ty n
  | _, _, _, .cl C => .cl C
  | _, _, _, .adr v => .adr v
  | _, _, _, .scr h => .scr (h.imp (fun x => ⟨x.1, fun z => x.2 (hR _ z)⟩) fun x => x)
  | .ref n, _, k, .ref h => by
    have hn : n < N := by simpa [A.cl] using k
    rw [hi n hn]
    exact .ref hn
  | .tup _, _, k, .tup h hs => .tup h (RelL.cut hR hi (by simpa [A.cl] using k) hs)
  | .lst _, _, k, .lst h r hs => .lst h (fun z => r (hR _ z)) (RelL.cut hR hi (by simpa [A.cl] using k) hs)
  | .obj _ _ _, _, k, .obj h r hn hs => .obj h (fun z => r (hR _ z)) hn (RelL.cut hR hi (by simpa [A.cl] using k) hs)
theorem RelL.cut (hR : ∀ a, w0.R a → w.R a) (hi : ∀ n, n < N → w.i n = w0.i n) : ∀ {ds : List D} {vs : List V}, A.cls N ds = true → RelL c w N' H ds vs → RelL c w0 N H ds vs
  | _, _, _, .nil => .nil
  | d :: ds, _, k, .cons h hs => by
    have k' : A.cl N d = true ∧ A.cls N ds = true := by simpa [A.cls] using k
    exact .cons (Rel.cut hR hi k'.1 h) (RelL.cut hR hi k'.2 hs)
end
end
def clO (N : Nat) : O → Bool
  | .lst xs => cls N xs
  | .ins _ fs => cls N (fs.map (·.2))
  | .dct kvs => cls N (kvs.map (·.2))
theorem RelO.clO {c : Cg} {w : Wd} {N : Nat} {H : Hp} {o : O} {a : Addr} (h : RelO c w N H o a) : A.clO N o = true := by
  cases o with
  | lst xs => obtain ⟨vs, _, h⟩ := h; exact h.clsd
  | ins C fs => obtain ⟨_, _, _, _, h⟩ := h; exact h.clsd
  | dct kvs => obtain ⟨_, _, _, h⟩ := h; exact h.clsd
theorem RelO.cut {c : Cg} {w w0 : Wd} {N N' : Nat} {H : Hp} (hR : ∀ a, w0.R a → w.R a) (hi : ∀ n, n < N → w.i n = w0.i n) {o : O} {a : Addr} (k : A.clO N o = true) (h : RelO c w N' H o a) : RelO c w0 N H o a := by
  cases o with
  | lst xs => obtain ⟨vs, h1, h⟩ := h; exact ⟨vs, h1, h.cut hR hi k⟩
  | ins C fs => obtain ⟨dx, fs', h1, h2, h⟩ := h; exact ⟨dx, fs', h1, h2, h.cut hR hi k⟩
  | dct kvs => obtain ⟨kvs', h1, h2, h⟩ := h; exact ⟨kvs', h1, h2, h.cut hR hi k⟩
theorem Stp.cut {w w' : Wd} {N N' : Nat} {H H' : Hp} (s : Stp w N H w' N' H') : Stp w N H w N H' := ⟨Nat.le_refl _, fun _ _ => rfl, fun n h1 h2 => absurd h2 (by omega), fun _ h => h, fun _ h => .inl h, s.fro, s.rsv, s.dom, s.tups⟩
theorem Wf.cut {c : Cg} {w w' : Wd} {S S1 T : Sto} {H H' : Hp} (f : Wf c w S H) (s : Stp w S.length H w' (S1 ++ T).length H') (f' : Wf c w' (S1 ++ T) H') (hl : S1.length = S.length) (k : ∀ o ∈ S1, A.clO S.length o = true) : Wf c w S1 H' := by
  refine ⟨fun n hn => f.res n (hl ▸ hn), (fun a h => (f.held a h).elim fun u e => s.dom a u e), fun n m hn hm => f.inj n m (hl ▸ hn) (hl ▸ hm), fun n o e => ?_⟩
  have hn : n < S1.length := (List.getElem?_eq_some_iff.mp e).1
  have z := f'.obj n o (by rw [List.getElem?_append_left hn]; exact e)
  rw [s.ids n (hl ▸ hn)] at z
  rw [hl]
  exact RelO.cut s.up s.ids (k o (List.mem_of_getElem? e)) z
/-- a thing that lies behind N, as it stays when no one can change it any more -/
def frz (S : Sto) (N : Nat) : D → Option D
  | .ref n => if n < N then some (.ref n) else match S[n]? with
    | some (.lst xs) => if cls N xs = true then some (.lst xs) else none
    | some (.ins C fs) => if cls N (fs.map (·.2)) = true then some (.obj C (fs.map (·.1)) (fs.map (·.2))) else none
    | _ => none
  | d => if cl N d = true then some d else none
theorem frz_rel {c : Cg} {w w' : Wd} {S S' : Sto} {H H' : Hp} {d r : D} {v : V} (f : Wf c w S H) (s : Stp w S.length H w' S'.length H') (f' : Wf c w' S' H') (h : frz S' S.length d = some r) (rd : Rel c w' S'.length H' d v) : Rel c w S.length H' r v := by
  have gen : (if cl S.length d = true then some d else none) = some r → Rel c w S.length H' r v := fun h => by
    split at h
    · rename_i k
      cases h
      exact rd.cut s.up s.ids k
    · cases h
  cases d with
  | ref n =>
    simp only [frz] at h
    split at h
    · rename_i hn
      cases h
      exact rd.cut s.up s.ids (by simpa [cl] using hn)
    · rename_i hn
      cases rd with
      | ref hn' =>
        have nR : ¬ w.R (w'.i n) := fun z => by
          have q := s.new n (by omega) hn'
          obtain ⟨u, e⟩ := f.held _ z
          rw [q] at e; cases e
        cases e : S'[n]? with
        | none => rw [e] at h; cases h
        | some o =>
          rw [e] at h
          cases o with
          | lst xs =>
            simp only at h
            split at h
            · rename_i k
              cases h
              obtain ⟨vs, h1, h2⟩ := f'.obj n _ e
              exact .lst h1 nR (h2.cut s.up s.ids k)
            · cases h
          | ins C fs =>
            simp only at h
            split at h
            · rename_i k
              cases h
              obtain ⟨dx, fs', h1, h2, h3⟩ := f'.obj n _ e
              exact .obj h1 nR h2 (h3.cut s.up s.ids k)
            · cases h
          | dct kvs => cases h
  | _ => exact gen h
/-- the same promise, all that the def has laid beyond what stood at its call left behind -/
def cutSp (sp : ASp) : ASp := fun ds S Q E => sp ds S (fun d S' => ∃ S1 T r, S' = S1 ++ T ∧ S1.length = S.length ∧ (∀ o ∈ S1, clO S.length o = true) ∧ frz S' S.length d = some r ∧ Q r S1)
  (fun x S' => ∃ S1 T, S' = S1 ++ T ∧ S1.length = S.length ∧ (∀ o ∈ S1, clO S.length o = true) ∧ cls S.length x.vs = true ∧ E x S1)
theorem RelX.cut {c : Cg} {w w0 : Wd} {N N' : Nat} {H : Hp} (hR : ∀ a, w0.R a → w.R a) (hi : ∀ n, n < N → w.i n = w0.i n) {x : Exc} {cl : Value} {d : Option Addr} (k : cls N x.vs = true) (h : RelX c w N' H x cl d) : RelX c w0 N H x cl d := by
  refine ⟨h.1, ?_⟩
  have h2 := h.2
  cases d with
  | none => exact h2
  | some dd =>
    obtain ⟨fs, e, r, hn, hs⟩ := h2
    exact ⟨fs, e, fun z => r (hR _ z), hn, hs.cut hR hi k⟩
theorem cutSp_up {c : Cg} {sp : ASp} (vs : List V) (H : Hp) (Q : VK) (E : XK) (h : upSp c (cutSp sp) vs H Q E) : upSp c sp vs H Q E := by
  obtain ⟨w, S, ds, Q', E', f, r, ht, hq, he⟩ := h
  refine ⟨w, S, ds, _, _, f, r, ht, ?_, ?_⟩
  · rintro w' S' H' d v s f' rd ⟨S1, T, y, rfl, hl, k, hz, q⟩
    have fc := f.cut s f' hl k
    refine hq w S1 H' y v (by rw [hl]; exact s.cut) fc ?_ q
    rw [hl]
    exact frz_rel f s f' hz rd
  · rintro w' S' H' x cl d s f' rx ⟨S1, T, rfl, hl, k, kx, q⟩
    have fc := f.cut s f' hl k
    refine he w S1 H' x cl d (by rw [hl]; exact s.cut) fc ?_ q
    rw [hl]
    exact rx.cut s.up s.ids kx
end A

set_option Elab.async false
set_option linter.all false
set_option maxRecDepth 100000
set_option maxHeartbeats 4000000
namespace A
open PySem PySem.Spec PyProof.Rows L2
/-! ### walks over what stays -/
def WalkD (c : Cg) (w : Wd) (N : Nat) (H : Hp) (J : It) (xs : List D) : Prop := ∃ (G : Hp → Prop) (Y : Nat → Hp → V → Hp → Prop), Walk J xs.length G Y ∧
  (∀ w2 N2 H2, Stp w N H w2 N2 H2 → G H2) ∧
  ∀ w2 N2 H2 i x H3, Stp w N H w2 N2 H2 → i < xs.length → Y i H2 x H3 → Same H2 H3 ∧ ∃ d, xs[i]? = some d ∧ Rel c w2 N2 H3 d x
def upI (n : Cn) (t : AM (List D)) : TI := fun σ H R => ∃ w ρ S, Sta n.c n.g w ρ S σ H ∧ ∃ (Q' : List D → Sto → Prop) (E' : XQ), t ρ S Q' E' ∧
  (∀ w' S' H' it, Stp w S.length H w' S'.length H' → Wf n.c w' S' H' → Q' it S' → ∀ J, WalkD n.c w' S'.length H' J it → R J H') ∧
    ∀ w' S' H' x cls d, Stp w S.length H w' S'.length H' → Wf n.c w' S' H' → RelX n.c w' S'.length H' x cls d → E' x S' → n.W cls d σ H'
abbrev JI (X : Cx) (n : Cn) (tg e : Expr) (t : AM (List D)) : Prop := PI X tg e (upI n t)
theorem PI.imp {X : Cx} {tg e : Expr} {t t' : TI} (h : PI X tg e t) (k : ∀ σ H Q, t' σ H Q → t σ H Q) : PI X tg e t' := ⟨fun pins s σ H Q I q => h.run pins s σ H Q I (k σ H Q q)⟩
/-- by an expression, then the walk -/
theorem upI.bind {α β : Type} {n : Cn} {r : Wd → Nat → Hp → α → β → Prop} {t : AM α} {f : α → AM (List D)} {σ : L2.St} {H : Hp} {R : It → Hp → Prop} (h : upI n (aBind t f) σ H R) :
    up n.c n.g n.W r t σ H (fun b H1 => ∃ w1 ρ S1 a, Wf n.c w1 S1 H1 ∧ r w1 S1.length H1 a b ∧ ∃ (Q' : List D → Sto → Prop) (E' : XQ), f a ρ S1 Q' E' ∧ ∀ it, Q' it S1 → ∀ J, WalkD n.c w1 S1.length H1 J it → R J H1) := by
  obtain ⟨w, ρ, S, st, Q', E', ht, hq, he⟩ := h
  refine ⟨w, ρ, S, st, fun a S1 => f a ρ S1 Q' E', E', ht, fun w1 S1 H1 a b s1 f1 r1 hf => ?_, he⟩
  exact ⟨w1, ρ, S1, a, f1, r1, Q', E', hf, fun it z J wd => hq w1 S1 H1 it s1 f1 z J wd⟩
/-- a list, a tuple, the script, that stays -/
def fv : D → Option (List D)
  | .lst xs => some xs
  | .tup xs => some xs
  | .scr ns => some (ns.map D.int)
  | _ => none
theorem relL_ints {c : Cg} {w : Wd} {N : Nat} {H : Hp} : ∀ {ns : List Int}, RelL c w N H (ns.map D.int) (ns.map V.int)
  | [] => .nil
  | n :: ns => .cons (.int n) relL_ints
theorem fv_stay {c : Cg} {w : Wd} {N : Nat} {H : Hp} {d : D} {v : V} {xs : List D} (h : fv d = some xs) (r : Rel c w N H d v) : ∃ b a vs, v = .ref a ∧ SqB c.K H b a vs ∧ RelL c w N H xs vs ∧ ∀ w2 N2 H2, Stp w N H w2 N2 H2 → SqB c.K H2 b a vs := by
  cases r with
  | @lst a ys vs h1 h2 h3 =>
    simp [fv] at h; subst h
    exact ⟨true, a, vs, rfl, SqL.of h1, h3, fun w2 N2 H2 s => SqL.of (s.fro _ _ h1 h2)⟩
  | @tup a ys vs h1 h3 =>
    simp [fv] at h; subst h
    exact ⟨false, a, vs, rfl, h1, h3, fun w2 N2 H2 s => SqT.stp0 s.to0 h1⟩
  | @scr a ns h1 =>
    simp [fv] at h; subst h
    exact ⟨true, a, _, rfl, scr_sq h1, relL_ints, fun w2 N2 H2 s => scr_sq (p := True) (h1.imp (fun z => ⟨(Rd.fro s z.1 z.2).1, trivial⟩) fun z => z)⟩
  | _ => simp [fv] at h
def aItS (te : AM D) : AM (List D) := aBind te fun d => fun _ S Q _ => opt (fv d) fun xs => Q xs S
section
variable {X : Cx} {n : Cn} {tg e : Expr} {es : List Expr} {te : AM D} {t : AM (List D)} {p pos : Pos}
theorem ji_seq (he : JE X n e te) (hK : X.K = n.c.K := by rfl) : JI X n tg e (aItS te) := PI.imp (kpi_sq n.c.K he hK) fun σ H R h => by
  refine (upI.bind h).mono ?_
  rintro v H1 ⟨w1, ρ, S1, d, f1, r1, Q', E', hf, k⟩
  obtain ⟨xs, e1, q⟩ := opt_some hf
  obtain ⟨b, a, vs, rfl, hb, hl, hs⟩ := fv_stay e1 r1
  refine ⟨b, a, vs, rfl, hb, fun J wk => k xs q J ⟨_, YAt vs, ?_, hs, ?_⟩⟩
  · rw [hl.len]; exact wk
  · rintro w2 N2 H2 i x H3 s hi ⟨rfl, hy⟩
    obtain ⟨d', h1, h2⟩ := hl.getV hy
    exact ⟨Same.refl _, d', h1, h2.stp s⟩
/-- range(a), range(a, b) -/
def rng (lo : Int) (n : Nat) : List D := (List.range n).map fun (i : Nat) => D.int (lo + i)
theorem walk_rng {c : Cg} {w : Wd} {N : Nat} {H : Hp} {lo : Int} {m : Nat} : WalkD c w N H (Itr lo m) (rng lo m) := by
  have len : (rng lo m).length = m := by simp [rng]
  refine ⟨fun _ => True, YFn (fun i => .int (lo + i)), by rw [len]; exact walk_range, fun _ _ _ _ => trivial, ?_⟩
  rintro w2 N2 H2 i x H3 _ hi ⟨rfl, rfl⟩
  rw [len] at hi
  exact ⟨Same.refl _, .int (lo + i), by simp [rng, hi], .int _⟩
def aRng1 (t : AM (List D)) : AM (List D) := aBind t fun ds => fun _ S Q _ => opt (one1 ds) fun d => opt (asI d) fun j => (-(2 ^ 62) ≤ j ∧ j < 2 ^ 62) ∧ Q (rng 0 j.toNat) S
def aRng2 (t : AM (List D)) : AM (List D) := aBind t fun ds => fun _ S Q _ => opt (two2 ds) fun d => opt (asI d.1) fun i => opt (asI d.2) fun j => (-(2 ^ 62) ≤ i ∧ i < 2 ^ 62 ∧ -(2 ^ 62) ≤ j ∧ j < 2 ^ 62) ∧ Q (rng i (j - i).toNat) S
theorem ji_range1 {a : Expr} (hg : Gl X "range") (hm : X.mg "range" = none) (ha : JA X n [a] t) (hs : starEach [a] X.env = [(false, eval a X.env)] := by rfl) : JI X n tg (.Call (.Name "range" p) [a] [] pos) (aRng1 t) := PI.imp (pi_range1 hg hm ha hs) fun σ H R h => by
  refine (upI.bind h).mono ?_
  rintro v H1 ⟨w1, ρ, S1, ds, f1, r1, Q', E', hf, k⟩
  obtain ⟨d, e1, hf⟩ := opt_some hf
  obtain ⟨j, e2, ⟨z1, z2⟩, q⟩ := opt_some hf
  obtain ⟨x, rfl, rx⟩ := one_rel e1 r1
  obtain ⟨rfl, rfl⟩ := asI_rel e2 rx
  exact ⟨j, rfl, z1, z2, k _ q _ walk_rng⟩
theorem ji_range2 {a b : Expr} (hg : Gl X "range") (hm : X.mg "range" = none) (ha : JA X n [a, b] t) (hs : starEach [a, b] X.env = [(false, eval a X.env), (false, eval b X.env)] := by rfl) (hs2 : starEach [b] X.env = [(false, eval b X.env)] := by rfl) :
    JI X n tg (.Call (.Name "range" p) [a, b] [] pos) (aRng2 t) := PI.imp (pi_range2 hg hm ha hs hs2) fun σ H R h => by
  refine (upI.bind h).mono ?_
  rintro v H1 ⟨w1, ρ, S1, ds, f1, r1, Q', E', hf, k⟩
  obtain ⟨d, e1, hf⟩ := opt_some hf
  obtain ⟨i, e2, hf⟩ := opt_some hf
  obtain ⟨j, e3, z, q⟩ := opt_some hf
  obtain ⟨x, y, rfl, rx, ry⟩ := two_rel e1 r1
  obtain ⟨_, rfl⟩ := asI_rel e2 rx
  obtain ⟨_, rfl⟩ := asI_rel e3 ry
  exact ⟨i, j, rfl, z, k _ q _ walk_rng⟩
/-- enumerate(a list that stays) -/
def enumD (xs : List D) : List D := (List.range xs.length).map fun (i : Nat) => D.tup [.int i, xs.getD i .non]
def fvL : D → Option (List D)
  | .lst xs => some xs
  | _ => none
def aEnum (t : AM (List D)) : AM (List D) := aBind t fun ds => fun _ S Q _ => opt (one1 ds) fun d => opt (fvL d) fun xs => Q (enumD xs) S
theorem fvL_stay {c : Cg} {w : Wd} {N : Nat} {H : Hp} {d : D} {v : V} {xs : List D} (h : fvL d = some xs) (r : Rel c w N H d v) : ∃ a vs, v = .ref a ∧ SqL c.K H a vs ∧ RelL c w N H xs vs ∧ ∀ w2 N2 H2, Stp w N H w2 N2 H2 → SqL c.K H2 a vs := by
  cases r with
  | @lst a ys vs h1 h2 h3 =>
    simp [fvL] at h; subst h
    exact ⟨a, vs, rfl, SqL.of h1, h3, fun w2 N2 H2 s => SqL.of (s.fro _ _ h1 h2)⟩
  | _ => simp [fvL] at h
theorem pair_new {c : Cg} {w : Wd} {N : Nat} {H : Hp} {T : Addr} {d e : D} {x y : V} (hT : H T = none) (r1 : Rel c w N H d x) (r2 : Rel c w N H e y) : Rel c w N (upd H T (.tup [x, y])) (.tup [d, e]) (.ref T) :=
  .tup (SqT.of upd_same) (.cons (r1.stp (Stp.alloc hT _)) (.cons (r2.stp (Stp.alloc hT _)) .nil))
theorem ji_enum {elts : List Expr} {kk : Nat} {tpos : Pos} (hg : Gl X "enumerate") (hm : X.mg "enumerate" = none) (ha : JA X n [e] t) (hs : starEach [e] X.env = [(false, eval e X.env)] := by rfl) (hK : X.K = n.c.K := by rfl) :
    JI X n (.Tuple elts kk tpos) (.Call (.Name "enumerate" p) [e] [] pos) (aEnum t) := PI.imp (pi_enum hg hm ha hs) fun σ H R h => by
  refine (upI.bind h).mono ?_
  rintro v H1 ⟨w1, ρ, S1, ds, f1, r1, Q', E', hf, k⟩
  obtain ⟨d, e1, hf⟩ := opt_some hf
  obtain ⟨xs, e2, q⟩ := opt_some hf
  obtain ⟨x, rfl, rx⟩ := one_rel e1 r1
  obtain ⟨a, vs, rfl, hb, hl, hst⟩ := fvL_stay e2 rx
  rw [hK]
  refine ⟨a, vs, rfl, hb, k _ q _ ⟨_, YPair (fun i => some (.int (i : Nat))) (fun i => vs[i]?), ?_, hst, ?_⟩⟩
  · have : (enumD xs).length = vs.length := by simp [enumD, hl.len]
    rw [this]
    exact walk_enum
  · rintro w2 N2 H2 i z H3 s hi ⟨T, x, y, rfl, hT, rfl, hx, hy⟩
    have hi' : i < xs.length := by simpa [enumD] using hi
    cases hx
    obtain ⟨d', h1, h2⟩ := hl.getV hy
    refine ⟨same_new hT _, .tup [.int i, xs.getD i .non], by simp [enumD, hi'], ?_⟩
    have : xs.getD i .non = d' := by simp [List.getD, h1]
    rw [this]
    exact pair_new hT (.int _) (h2.stp s)
/-- zip of two lists, two tuples, or a tuple and a list -/
def zipD (xs ys : List D) : List D := (List.range (min xs.length ys.length)).map fun (i : Nat) => D.tup [xs.getD i .non, ys.getD i .non]
end
/-! ### targets of names -/
abbrev AG := D → Ev → (Ev → Prop) → Prop
abbrev AGs := List D → Ev → (Ev → Prop) → Prop
/-- the reading of a target, held against its exact one; only slots of vs change -/
def GL (c : Cg) (g : TG) (gD : AG) (vs : List Nat) : Prop := ∀ (gx : Gx) (w : Wd) (ρ : Ev) (S : Sto) (σ : L2.St) (H : Hp) (d : D) (v : V) (Q' : Ev → Prop) (Q : L2.St → Hp → Prop), Sta c gx w ρ S σ H → Rel c w S.length H d v → gD d ρ Q' →
  (∀ ρ' σ', Sta c gx w ρ' S σ' H → wipe σ' vs = wipe σ vs → Q' ρ' → Q σ' H) → g v σ H Q
def GLs (c : Cg) (g : TGs) (gD : AGs) (vs : List Nat) : Prop := ∀ (gx : Gx) (w : Wd) (ρ : Ev) (S : Sto) (σ : L2.St) (H : Hp) (ds : List D) (us : List V) (Q' : Ev → Prop) (Q : L2.St → Hp → Prop), Sta c gx w ρ S σ H → RelL c w S.length H ds us → gD ds ρ Q' →
  (∀ ρ' σ', Sta c gx w ρ' S σ' H → wipe σ' vs = wipe σ vs → Q' ρ' → Q σ' H) → g us σ H Q
def gN (i : Nat) : AG := fun d ρ Q => Q (ρ.set i (some d))
def gsN : AGs := fun ds ρ Q => ds = [] ∧ Q ρ
def hd1 : List D → Option (D × List D)
  | [] => none
  | d :: r => some (d, r)
def gsC (g : AG) (gs : AGs) : AGs := fun ds ρ Q => opt (hd1 ds) fun p => g p.1 ρ fun ρ1 => gs p.2 ρ1 Q
def gT (m : Nat) (gs : AGs) : AG := fun d ρ Q => opt (asT d) fun xs => xs.length = m ∧ gs xs ρ Q
theorem wipe_set {σ : L2.St} {i : Nat} {o : Option V} : ∀ {vs : List Nat}, i ∈ vs → wipe (σ.set i o) vs = wipe σ vs
  | [], h => absurd h (by simp)
  | v :: vs, h => by
    simp only [wipe]
    by_cases hi : i ∈ vs
    · rw [wipe_set hi]
    · rcases List.mem_cons.mp h with rfl | h
      · have e : ∀ {vs : List Nat} {σ : L2.St}, i ∉ vs → wipe (σ.set i o) vs = (wipe σ vs).set i o := by
          intro vs
          induction vs with
          | nil => intro σ _; rfl
          | cons u us ih =>
            intro σ hn
            simp only [List.mem_cons, not_or] at hn
            simp only [wipe]
            rw [ih hn.2, List.set_comm _ _ hn.1]
        rw [e hi, List.set_set]
      · exact absurd h hi
theorem gl_name {c : Cg} {i : Nat} {vs : List Nat} (h : i ∈ vs) : GL c (gName i) (gN i) vs := by
  intro gx w ρ S σ H d v Q' Q st r h' k
  exact k _ _ ⟨st.wf, st.ev.set r, st.gx⟩ (wipe_set h) h'
theorem gls_nil {c : Cg} {vs : List Nat} : GLs c gNil gsN vs := by
  intro gx w ρ S σ H ds us Q' Q st r h' k
  obtain ⟨rfl, h'⟩ := h'
  cases r
  exact ⟨rfl, k _ _ st rfl h'⟩
theorem gls_cons {c : Cg} {vs : List Nat} {g : TG} {gD : AG} {gs : TGs} {gsD : AGs} (h1 : GL c g gD vs) (h2 : GLs c gs gsD vs) : GLs c (gCons g gs) (gsC gD gsD) vs := by
  intro gx w ρ S σ H ds us Q' Q st r h' k
  obtain ⟨p, e, h'⟩ := opt_some h'
  cases r with
  | nil => cases e
  | @cons d v ds' vs' r rs =>
    cases e
    exact ⟨v, vs', rfl, h1 gx w ρ S σ H d v _ _ st r h' fun ρ1 σ1 st1 w1 q => h2 gx w ρ1 S σ1 H ds' vs' _ _ st1 rs q fun ρ2 σ2 st2 w2 q => k ρ2 σ2 st2 (w2.trans w1) q⟩
theorem gl_tup {c : Cg} {vs : List Nat} {m : Nat} {gs : TGs} {gsD : AGs} (h2 : GLs c gs gsD vs) : GL c (gTup c.K m gs) (gT m gsD) vs := by
  intro gx w ρ S σ H d v Q' Q st r h' k
  obtain ⟨xs, e, hm, h'⟩ := opt_some h'
  obtain ⟨a, us, rfl, ha, la⟩ := asT_rel e r
  exact ⟨a, us, rfl, ha, by rw [← la.len]; exact hm, h2 gx w ρ S σ H xs us _ _ st la h' k⟩
/-! ### comprehensions -/
def lcX (g : AG) (tt : AM Bool) (te : AM D) (ρ : Ev) (Q : List D → Sto → Prop) : List D → List D → Sto → Prop
  | [], acc, S => Q acc S
  | x :: r, acc, S => g x ρ fun ρ2 => tt ρ2 S (fun b S3 => if b = true then te ρ2 S3 (fun y S4 => acc.length < big ∧ lcX g tt te ρ Q r (acc ++ [y]) S4) (fun _ _ => False) else lcX g tt te ρ Q r acc S3) fun _ _ => False
def wipeD (ρ : Ev) : List Nat → Ev
  | [] => ρ
  | v :: vs => (wipeD ρ vs).set v none
theorem RelE.wipe {c : Cg} {w : Wd} {N : Nat} {H : Hp} {ρ : Ev} {σ : L2.St} (h : RelE c w N H ρ σ) : ∀ vs : List Nat, RelE c w N H (wipeD ρ vs) (L2.wipe σ vs)
  | [] => h
  | v :: vs => RelE.unset (RelE.wipe h vs)
def aLc (ti : AM (List D)) (g : AG) (tt : AM Bool) (te : AM D) (vs : List Nat) : AM D := aBind ti fun xs => fun ρ S Q _ => lcX g tt te (wipeD ρ vs) (fun ys S' => Q (.lst ys) S') xs [] S
/-- the comprehension's list stays open for change -/
def aLcM (ti : AM (List D)) (g : AG) (tt : AM Bool) (te : AM D) (vs : List Nat) : AM D := aBind ti fun xs => fun ρ S Q _ => lcX g tt te (wipeD ρ vs) (fun ys S' => Q (.ref S'.length) (S' ++ [.lst ys])) xs [] S
def Cn.no (n : Cn) : Cn := { n with W := fun _ _ _ _ => False }
theorem wipe_at (σ : L2.St) : ∀ (vs : List Nat) (j : Nat), (wipe σ vs)[j]? = if j ∈ vs then (if j < σ.length then some none else none) else σ[j]?
  | [], j => by simp [wipe]
  | v :: vs, j => by
    simp only [wipe, List.getElem?_set, wipe_length, wipe_at σ vs j, List.mem_cons]
    by_cases z : v = j
    · subst z; simp
    · have z' : ¬ j = v := fun e => z e.symm
      simp [z, z']
theorem wipe_twice (σ : L2.St) (vs : List Nat) : wipe (wipe σ vs) vs = wipe σ vs := by
  refine List.ext_getElem? fun j => ?_
  rw [wipe_at, wipe_length, wipe_at]
  by_cases h : j ∈ vs <;> simp [h]
theorem lc_run {n : Cn} {J : It} {xs : List D} {g : TG} {gD : AG} {tt : AM Bool} {te : AM D} {vs : List Nat} {w : Wd} {ρ : Ev} {S : Sto} {σ : L2.St} {H1 : Hp} {Qd : List D → Sto → Prop} {Q : VK} (gl : GL n.c g gD vs) (st : Sta n.c n.g w ρ S σ H1)
    (wk : WalkD n.c w S.length H1 J xs) (h : lcX gD tt te (wipeD ρ vs) Qd xs [] S)
    (hd : ∀ D w2 S2 H2 ys us, H1 D = none → Stp w S.length H1 w2 S2.length H2 → Wf n.c w2 S2 H2 → w2.R D → (∀ m, m < S2.length → w2.i m ≠ D) → H2 D = some (.lst us) → RelL n.c w2 S2.length H2 ys us → Qd ys S2 → Q (.ref D) H2) :
    LcB J g (upT n.no tt) (upE n.no te) vs σ Q H1 := by
  obtain ⟨G, Y, wlk, hG, hY⟩ := wk
  refine lcB wlk (fun D i H => ∃ w2 S2 ys us, Stp w S.length H1 w2 S2.length H ∧ Wf n.c w2 S2 H ∧ w2.R D ∧ (∀ m, m < S2.length → w2.i m ≠ D) ∧ H D = some (.lst us) ∧ RelL n.c w2 S2.length H ys us ∧ lcX gD tt te (wipeD ρ vs) Qd (xs.drop i) ys S2) ?_ ?_ ?_ ?_
  · intro D hD
    refine ⟨w.hold D, S, [], [], Stp.hold hD _, st.wf.hold hD _, .inr rfl, fun m hm z => ?_, upd_same, .nil, h⟩
    obtain ⟨ho, e, _⟩ := RelO.isAt (st.wf.obj m S[m] (by simp))
    have z : w.i m = D := z
    rw [z, hD] at e; cases e
  · rintro D i H hi ⟨w2, S2, ys, us, s2, f2, _⟩
    exact hG w2 _ H s2
  · rintro D i x H H' hD hi ⟨w2, S2, ys, us, s2, f2, hR, hn, hu, hl, hx⟩ y
    obtain ⟨sm, d, hd', rd⟩ := hY w2 _ H i x H' s2 hi y
    have sH : Stp w2 S2.length H w2 S2.length H' := Stp.same sm
    have f3 := f2.same sm
    have hdr : xs.drop i = d :: xs.drop (i + 1) := by
      rw [List.drop_eq_getElem?_toList_append, hd']; rfl
    rw [hdr] at hx
    have st3 : Sta n.c n.g w2 (wipeD ρ vs) S2 (wipe σ vs) H' := ⟨f3, (st.ev.stp (s2.trans sH)).wipe vs, st.gx.stp (s2.trans sH)⟩
    refine gl n.g w2 (wipeD ρ vs) S2 (wipe σ vs) H' d x _ _ st3 rd hx fun ρ2 σ2 st4 hw hx => ⟨?_, ?_⟩
    · rw [hw]
      exact wipe_twice σ vs
    · refine ⟨w2, ρ2, S2, st4, _, _, hx, ?_, fun _ _ _ _ _ _ _ _ _ z => z.elim⟩
      rintro w5 S5 H5 b b' s5 f5 rfl hx
      have hD5 : H5 D = some (.lst us) := s5.rsv D _ (sm _ _ hu) hR hn
      have n5 : ∀ m, m < S5.length → w5.i m ≠ D := fun m hm z => by
        by_cases k : m < S2.length
        · rw [s5.ids m k] at z; exact hn m k z
        · have q := s5.new m (by omega) hm
          rw [z, sm _ _ hu] at q; cases q
      cases b with
      | false =>
        rw [if_neg Bool.false_ne_true] at hx ⊢
        exact ⟨w5, S5, ys, us, (s2.trans sH).trans s5, f5, s5.up _ hR, n5, hD5, (hl.stp sH).stp s5, hx⟩
      | true =>
        rw [if_pos rfl] at hx ⊢
        refine ⟨w5, ρ2, S5, st4.step s5 f5, _, _, hx, ?_, fun _ _ _ _ _ _ _ _ _ z => z.elim⟩
        rintro w6 S6 H6 yd yv s6 f6 ry ⟨hb, hx⟩
        have hD6 : H6 D = some (.lst us) := s6.rsv D _ hD5 (s5.up _ hR) n5
        have n6 : ∀ m, m < S6.length → w6.i m ≠ D := fun m hm z => by
          by_cases k : m < S5.length
          · rw [s6.ids m k] at z; exact n5 m k z
          · have q := s6.new m (by omega) hm
            rw [z, hD5] at q; cases q
        have hR6 := s6.up _ (s5.up _ hR)
        have m0 : Stp0 w6 S6.length H6 w6 S6.length (upd H6 D (.lst (us ++ [yv]))) := Stp0.mine hR6 hD6
        refine ⟨us, hD6, ?_, w6, S6, ys ++ [yd], us ++ [yv], Stp.mut (((s2.trans sH).trans s5).trans s6) hD, f6.mine hR6 hD6 n6, hR6, n6, upd_same, ?_, hx⟩
        · rw [← hl.len]; exact big_lt hb
        · exact ((((hl.stp sH).stp s5).stp s6).append (.cons ry .nil)).stp0 m0
  · rintro D H hD ⟨w2, S2, ys, us, s2, f2, hR, hn, hu, hl, hx⟩
    rw [List.drop_length] at hx
    exact hd D w2 S2 H ys us hD s2 f2 hR hn hu hl hx
end A

set_option Elab.async false
set_option linter.all false
set_option maxRecDepth 100000
set_option maxHeartbeats 4000000
namespace A
open PySem PySem.Spec PyProof.Rows L2
/-! ### the comprehension's list: it stays, or it may change -/
theorem lc_stay {c : Cg} {w w2 : Wd} {S S2 : Sto} {H H2 : Hp} {D : Addr} {ys : List A.D} {us : List V} (f : Wf c w S H) (hD : H D = none) (s : Stp w S.length H w2 S2.length H2) (f2 : Wf c w2 S2 H2) (hR : w2.R D) (hn : ∀ m, m < S2.length → w2.i m ≠ D)
    (hu : H2 D = some (.lst us)) (hl : RelL c w2 S2.length H2 ys us) : ∃ w3, Stp w S.length H w3 S2.length H2 ∧ Wf c w3 S2 H2 ∧ Rel c w3 S2.length H2 (.lst ys) (.ref D) := by
  refine ⟨⟨fun a => w2.R a ∧ a ≠ D, w2.i⟩, ⟨s.le, s.ids, s.new, fun a h => ⟨s.up a h, fun z => ?_⟩, fun a h => s.res a h.1, s.fro, s.rsv, s.dom, s.tups⟩, ⟨fun m hm => ⟨f2.res m hm, hn m hm⟩, fun a h => f2.held a h.1, f2.inj, fun m o e => ?_⟩, .lst hu (fun z => z.2 rfl) ?_⟩
  · obtain ⟨o, e⟩ := f.held a h
    rw [z, hD] at e; cases e
  · have z := f2.obj m o e
    exact RelO.cut (w := w2) (w0 := ⟨fun a => w2.R a ∧ a ≠ D, w2.i⟩) (fun a h => h.1) (fun _ _ => rfl) (RelO.clO z) z
  · exact hl.cut (w := w2) (w0 := ⟨fun a => w2.R a ∧ a ≠ D, w2.i⟩) (fun a h => h.1) (fun _ _ => rfl) hl.clsd
theorem lc_open {c : Cg} {w w2 : Wd} {S S2 : Sto} {H H2 : Hp} {D : Addr} {ys : List A.D} {us : List V} (f : Wf c w S H) (hD : H D = none) (s : Stp w S.length H w2 S2.length H2) (f2 : Wf c w2 S2 H2) (hR : w2.R D) (hn : ∀ m, m < S2.length → w2.i m ≠ D)
    (hu : H2 D = some (.lst us)) (hl : RelL c w2 S2.length H2 ys us) : ∃ w3, Stp w S.length H w3 (S2 ++ [O.lst ys]).length H2 ∧ Wf c w3 (S2 ++ [.lst ys]) H2 ∧ Rel c w3 (S2 ++ [O.lst ys]).length H2 (.ref S2.length) (.ref D) := by
  have len : (S2 ++ [O.lst ys]).length = S2.length + 1 := by simp
  have old : ∀ m, m < S2.length → (if m = S2.length then D else w2.i m) = w2.i m := fun m hm => if_neg (Nat.ne_of_lt hm)
  have sp : ∀ n, n < S2.length + 1 → n = S2.length ∨ n < S2.length := fun n h => by omega
  have s0 : Stp0 w2 S2.length H2 ⟨w2.R, fun m => if m = S2.length then D else w2.i m⟩ (S2.length + 1) H2 := ⟨Nat.le_succ _, old, fun _ h => .inl h, fun _ _ e _ => e, fun _ _ h => h⟩
  refine ⟨⟨w2.R, fun m => if m = S2.length then D else w2.i m⟩, ?_, ?_, ?_⟩
  · rw [len]
    refine ⟨Nat.le_succ_of_le s.le, fun m hm => (old m (Nat.lt_of_lt_of_le hm s.le)).trans (s.ids m hm), fun m h1 h2 => ?_, s.up, s.res, s.fro, s.rsv, s.dom, s.tups⟩
    rcases sp m h2 with rfl | h2
    · show H (if S2.length = S2.length then D else _) = none
      rw [if_pos rfl]; exact hD
    · show H (if m = S2.length then D else _) = none
      rw [old m h2]; exact s.new m h1 h2
  · refine ⟨fun m hm => ?_, f2.held, fun m k hm hk e => ?_, fun m o e => ?_⟩
    · rw [len] at hm
      show w2.R (if m = S2.length then D else w2.i m)
      rcases sp m hm with rfl | hm
      · rw [if_pos rfl]; exact hR
      · rw [old m hm]; exact f2.res m hm
    · rw [len] at hm hk
      have e : (if m = S2.length then D else w2.i m) = (if k = S2.length then D else w2.i k) := e
      rcases sp m hm with rfl | hm
      · rcases sp k hk with rfl | hk
        · rfl
        · rw [if_pos rfl, old k hk] at e; exact absurd e.symm (hn k hk)
      · rcases sp k hk with rfl | hk
        · rw [if_pos rfl, old m hm] at e; exact absurd e (hn m hm)
        · rw [old m hm, old k hk] at e; exact f2.inj m k hm hk e
    · rw [len]
      have hm : m < S2.length + 1 := by rw [← len]; exact (List.getElem?_eq_some_iff.mp e).1
      rcases sp m hm with rfl | hm
      · have z : o = .lst ys := by simpa using e.symm
        subst z
        refine ⟨us, ?_, hl.stp0 s0⟩
        show H2 (if S2.length = S2.length then D else _) = _
        rw [if_pos rfl]; exact hu
      · rw [List.getElem?_append_left hm] at e
        have z := RelO.at0 s0 (f2.obj m o e) fun x h => h
        show RelO c _ _ H2 o (if m = S2.length then D else w2.i m)
        rw [old m hm]; exact z
  · rw [len]
    have := Rel.ref (c := c) (w := ⟨w2.R, fun m => if m = S2.length then D else w2.i m⟩) (N := S2.length + 1) (H := H2) (n := S2.length) (Nat.lt_succ_self _)
    simp only [if_true] at this
    exact this
section
variable {X : Cx} {n : Cn} {elt tg iter : Expr} {ifs : List Expr} {scope : Scope} {own : List (Str × Nat)} {pos : Pos} {ti : AM (List D)} {g : TG} {gD : AG} {tt : AM Bool} {te : AM D}
theorem up_lc {vs : List Nat} (gl : GL n.c g gD vs) {σ : L2.St} {H : Hp} {Q : VK} (h : upE n (aLc ti gD tt te vs) σ H Q) : tLc (upI n ti) g (upT n.no tt) (upE n.no te) vs σ H Q := by
  obtain ⟨w, ρ, S, st, Q', E', ht, hq, he⟩ := h
  rw [tLc_eq]
  refine ⟨w, ρ, S, st, _, E', ht, fun w1 S1 H1 xs s1 f1 hx J wk => ?_, he⟩
  refine lc_run gl (st.step s1 f1) wk hx fun D w2 S2 H2 ys us hD s2 f2 hR hn hu hl q => ?_
  obtain ⟨w3, s3, f3, r3⟩ := lc_stay f1 hD s2 f2 hR hn hu hl
  exact hq w3 S2 H2 _ _ (s1.trans s3) f3 r3 q
theorem up_lcM {vs : List Nat} (gl : GL n.c g gD vs) {σ : L2.St} {H : Hp} {Q : VK} (h : upE n (aLcM ti gD tt te vs) σ H Q) : tLc (upI n ti) g (upT n.no tt) (upE n.no te) vs σ H Q := by
  obtain ⟨w, ρ, S, st, Q', E', ht, hq, he⟩ := h
  rw [tLc_eq]
  refine ⟨w, ρ, S, st, _, E', ht, fun w1 S1 H1 xs s1 f1 hx J wk => ?_, he⟩
  refine lc_run gl (st.step s1 f1) wk hx fun D w2 S2 H2 ys us hD s2 f2 hR hn hu hl q => ?_
  obtain ⟨w3, s3, f3, r3⟩ := lc_open f1 hD s2 f2 hR hn hu hl
  exact hq w3 (S2 ++ [.lst ys]) H2 _ _ (s1.trans s3) f3 r3 q
def aYes : AM Bool := fun _ S Q _ => Q true S
theorem jts_nil : PTs X [] (upT n aYes) := ⟨fun pins s σ H Q I h => by
  obtain ⟨w, ρ, S, st, h⟩ := h
  exact pts_nil.run pins s σ H Q I (h.fin st.wf rfl)⟩
theorem jts_one {c : Expr} {t : AM Bool} (h : JT X n c t) : PTs X [c] (upT n t) := pts_one h
theorem j_lc (hc : X.calm = true) (hN : X.N.Nodup) (gl : GL n.c g gD (own.map (·.2))) (hi : JI X n tg iter ti) (ok : BlkOk X.N X.env.scope scope own)
    (hg : ∀ (s : Shared) (H : Hp) (C : Addr) (cl : List (Str × Addr)) (fp : List Addr), PG (X.blk s H scope (compEnvC scope cl C X.env) fp) tg g) (ht : ∀ (s : Shared) (H : Hp) (C : Addr) (cl : List (Str × Addr)) (fp : List Addr), PTs (X.blk s H scope (compEnvC scope cl C X.env) fp) ifs (upT n.no tt))
    (he : ∀ (s : Shared) (H : Hp) (C : Addr) (cl : List (Str × Addr)) (fp : List Addr), JE (X.blk s H scope (compEnvC scope cl C X.env) fp) n.no elt te) (hs : ∀ x, foldedSetIterable iter X.env x = pure x := by intro _; rfl) :
    JE X n (.ListComp elt [⟨tg, iter, ifs, 0⟩] scope pos) (aLc ti gD tt te (own.map (·.2))) := PE.imp (pe_lc hc hN hi ok hg ht he hs) fun _ _ _ h => up_lc gl h
theorem j_lcM (hc : X.calm = true) (hN : X.N.Nodup) (gl : GL n.c g gD (own.map (·.2))) (hi : JI X n tg iter ti) (ok : BlkOk X.N X.env.scope scope own)
    (hg : ∀ (s : Shared) (H : Hp) (C : Addr) (cl : List (Str × Addr)) (fp : List Addr), PG (X.blk s H scope (compEnvC scope cl C X.env) fp) tg g) (ht : ∀ (s : Shared) (H : Hp) (C : Addr) (cl : List (Str × Addr)) (fp : List Addr), PTs (X.blk s H scope (compEnvC scope cl C X.env) fp) ifs (upT n.no tt))
    (he : ∀ (s : Shared) (H : Hp) (C : Addr) (cl : List (Str × Addr)) (fp : List Addr), JE (X.blk s H scope (compEnvC scope cl C X.env) fp) n.no elt te) (hs : ∀ x, foldedSetIterable iter X.env x = pure x := by intro _; rfl) :
    JE X n (.ListComp elt [⟨tg, iter, ifs, 0⟩] scope pos) (aLcM ti gD tt te (own.map (·.2))) := PE.imp (pe_lc hc hN hi ok hg ht he hs) fun _ _ _ h => up_lcM gl h
end
/-! ### slices, stars -/
section
variable {X : Cx} {n : Cn} {e : Expr} {es : List Expr} {te : AM D} {t : AM (List D)} {pos p2 : Pos} {lo hi : Option Expr} {tl th : AM (Option Int)}
def oNo : AM (Option Int) := fun _ S Q _ => Q none S
def oSo (t : AM D) : AM (Option Int) := aBind t fun d => fun _ S Q _ => opt (asI d) fun i => Q (some i) S
theorem jo_none : JO X n none oNo := PO.imp po_none fun σ H Q ⟨w, ρ, S, st, h⟩ => h.fin st.wf rfl
theorem jo_some (h : JE X n e te) : JO X n (some e) (oSo te) := PO.imp (po_some h) fun σ H Q ⟨w, ρ, S, st, h⟩ => by
  refine (upW.bind st h).mono ?_
  rintro v H1 ⟨w1, S1, d, st1, _, r1, h1⟩
  refine h1.op fun Q' hf hq => ?_
  obtain ⟨i, e1, q⟩ := opt_some hf
  obtain ⟨rfl, rfl⟩ := asI_rel e1 r1
  exact ⟨i, rfl, hq _ _ _ _ _ Stp.refl st1.wf rfl q⟩
def aSl (te : AM D) (tl th : AM (Option Int)) : AM D := aBind te fun d => aBind tl fun l => aBind th fun u => fun _ S Q _ => dSl d l u S Q
theorem j_sl (he : JE X n e te) (hl : JO X n lo tl) (hu : JO X n hi th) (hK : X.K = n.c.K := by rfl) : JE X n (.Subscript e (.Slice lo hi none p2) pos) (aSl te tl th) := PE.imp (pe_slice (sl_A n.c.K hK) he hl hu) fun σ H Q ⟨w, ρ, S, st, h⟩ => by
  refine (upW.bind st h).mono ?_
  rintro x H1 ⟨w1, S1, d, st1, _, r1, h1⟩
  refine (upW.bind st1 h1).mono ?_
  rintro l H2 ⟨w2, S2, l', st2, s2, rfl, h2⟩
  refine (upW.bind st2 h2).mono ?_
  rintro u H3 ⟨w3, S3, u', st3, s3, rfl, h3⟩
  exact h3.op fun Q' hf hq => os_sl st3.wf ((r1.stp s2).stp s3) hf hq
theorem ja_star {p : Pos} (he : JE X n e te) (hr : JA X n es t) (hK : X.K = n.c.K := by rfl) (hs : starEach (.Starred e p :: es) X.env = (true, eval e X.env) :: starEach es X.env := by rfl) : JA X n (.Starred e p :: es) (aStar te t) :=
  PA.imp (kpa_star n.c.K he hr hK hs) fun σ H Q ⟨w, ρ, S, st, h⟩ => by
  refine (upW.bind st h).mono ?_
  rintro x H1 ⟨w1, S1, d, st1, _, r1, Q', E', ht, hq, he⟩
  obtain ⟨ys, e1, ht⟩ := opt_some ht
  obtain ⟨a, vs, rfl, ha, la⟩ := sv_rel st1.wf e1 r1
  refine ⟨a, vs, rfl, ha.symm, ?_⟩
  have h1 : upW n.c n.W (RelL n.c) (aBind t (fun xs => fun _ S Q _ => Q (ys ++ xs) S)) w1 ρ S1 σ H1 Q := ⟨Q', E', ht, hq, he⟩
  refine (upW.bind st1 h1).mono ?_
  rintro us H2 ⟨w2, S2, ds, st2, s2, r2, h2⟩
  exact h2.fin st2.wf ((la.stp s2).append r2)
end
end A

set_option Elab.async false
set_option linter.all false
set_option maxRecDepth 100000
set_option maxHeartbeats 4000000
namespace A
open PySem PySem.Spec PyProof.Rows L2
/-! ### statements -/
structure EndsA where
  nx : Ev → Sto → Prop
  rt : D → Sto → Prop
  bk : Ev → Sto → Prop
  ct : Ev → Sto → Prop
  ex : Exc → Ev → Sto → Prop
abbrev AS := EndsA → Ev → Sto → Prop
/-- the exact ends lead to the wanted ones -/
structure OkE (n : Cn) (w : Wd) (N : Nat) (H : Hp) (D' : EndsA) (De : Ends) : Prop where
  nx : ∀ w' ρ' S' σ' H', Stp w N H w' S'.length H' → Sta n.c n.g w' ρ' S' σ' H' → D'.nx ρ' S' → De.nx σ' H'
  rt : ∀ w' S' H' d v, Stp w N H w' S'.length H' → Wf n.c w' S' H' → Rel n.c w' S'.length H' d v → D'.rt d S' → De.rt v H'
  bk : ∀ w' ρ' S' σ' H', Stp w N H w' S'.length H' → Sta n.c n.g w' ρ' S' σ' H' → D'.bk ρ' S' → De.bk σ' H'
  ct : ∀ w' ρ' S' σ' H', Stp w N H w' S'.length H' → Sta n.c n.g w' ρ' S' σ' H' → D'.ct ρ' S' → De.ct σ' H'
  ex : ∀ w' ρ' S' σ' H' x cls d, Stp w N H w' S'.length H' → Sta n.c n.g w' ρ' S' σ' H' → RelX n.c w' S'.length H' x cls d → D'.ex x ρ' S' → n.W cls d σ' H'
theorem OkE.step {n : Cn} {w w1 : Wd} {N N1 : Nat} {H H1 : Hp} {D' : EndsA} {De : Ends} (k : OkE n w N H D' De) (s : Stp w N H w1 N1 H1) : OkE n w1 N1 H1 D' De :=
  ⟨fun w' ρ' S' σ' H' s' => k.nx w' ρ' S' σ' H' (s.trans s'), fun w' S' H' d v s' => k.rt w' S' H' d v (s.trans s'), fun w' ρ' S' σ' H' s' => k.bk w' ρ' S' σ' H' (s.trans s'), fun w' ρ' S' σ' H' s' => k.ct w' ρ' S' σ' H' (s.trans s'),
    fun w' ρ' S' σ' H' x cls d s' => k.ex w' ρ' S' σ' H' x cls d (s.trans s')⟩
def upS (n : Cn) (t : AS) : TS := fun De σ H => ∃ w ρ S D', Sta n.c n.g w ρ S σ H ∧ t D' ρ S ∧ OkE n w S.length H D' De
abbrev JS (X : Cx) (n : Cn) (st : Stmt) (t : AS) : Prop := PS X st (upS n t)
abbrev JSs (X : Cx) (n : Cn) (st : List Stmt) (t : AS) : Prop := PSs X st (upS n t)
def sBind {α : Type} (t : AM α) (f : α → AS) : AS := fun De ρ S => t ρ S (fun a S1 => f a De ρ S1) fun x S1 => De.ex x ρ S1
theorem upS.bind {α β : Type} {n : Cn} {r : Wd → Nat → Hp → α → β → Prop} {t : AM α} {f : α → AS} {De : Ends} {σ : L2.St} {H : Hp} (h : upS n (sBind t f) De σ H) :
    up n.c n.g n.W r t σ H (fun b H1 => ∃ w1 ρ S1 D' a, Sta n.c n.g w1 ρ S1 σ H1 ∧ r w1 S1.length H1 a b ∧ f a D' ρ S1 ∧ OkE n w1 S1.length H1 D' De) := by
  obtain ⟨w, ρ, S, D', st, ht, k⟩ := h
  exact ⟨w, ρ, S, st, _, _, ht, fun w1 S1 H1 a b s1 f1 r1 hf => ⟨w1, ρ, S1, D', a, st.step s1 f1, r1, hf, k.step s1⟩, fun w1 S1 H1 x cls d s1 f1 rx hx => k.ex w1 ρ S1 σ H1 x cls d s1 (st.step s1 f1) rx hx⟩
theorem sW.bind {α β : Type} {n : Cn} {r : Wd → Nat → Hp → α → β → Prop} {t : AM α} {f : α → AS} {De : Ends} {σ : L2.St} {H : Hp} {w : Wd} {ρ : Ev} {S : Sto} {D' : EndsA} (st : Sta n.c n.g w ρ S σ H) (h : sBind t f D' ρ S) (k : OkE n w S.length H D' De) :
    up n.c n.g n.W r t σ H (fun b H1 => ∃ w1 S1 a, Sta n.c n.g w1 ρ S1 σ H1 ∧ Stp w S.length H w1 S1.length H1 ∧ r w1 S1.length H1 a b ∧ f a D' ρ S1 ∧ OkE n w1 S1.length H1 D' De) :=
  ⟨w, ρ, S, st, _, _, h, fun w1 S1 H1 a b s1 f1 r1 hf => ⟨w1, S1, a, st.step s1 f1, s1, r1, hf, k.step s1⟩, fun w1 S1 H1 x cls d s1 f1 rx hx => k.ex w1 ρ S1 σ H1 x cls d s1 (st.step s1 f1) rx hx⟩
section
variable {X : Cx} {n : Cn} {st : Stmt} {rest : List Stmt} {t u : AS} {e o : Expr} {ta tb tv : AM D} {tc : AM Bool} {pos pos' : Pos}
def sNext : AS := fun De ρ S => De.nx ρ S
def sSeq (t u : AS) : AS := fun De ρ S => t { De with nx := u De } ρ S
theorem js_nil : JSs X n [] sNext := PSs.imp pss_nil fun De σ H ⟨w, ρ, S, D', st, h, k⟩ => k.nx w ρ S σ H Stp.refl st h
theorem js_one (h : JS X n st t) : JSs X n [st] t := pss_one h
theorem js_cons (h1 : JS X n st t) (h2 : JSs X n rest u) : JSs X n (st :: rest) (sSeq t u) := PSs.imp (pss_cons h1 h2) fun De σ H ⟨w, ρ, S, D', st, h, k⟩ =>
  ⟨w, ρ, S, { D' with nx := u D' }, st, h, ⟨fun w1 ρ1 S1 σ1 H1 s1 st1 q => ⟨w1, ρ1, S1, D', st1, q, k.step s1⟩, k.rt, k.bk, k.ct, k.ex⟩⟩
theorem js_pass : JS X n (.Pass pos) sNext := PS.imp ps_pass fun De σ H ⟨w, ρ, S, D', st, h, k⟩ => k.nx w ρ S σ H Stp.refl st h
def sBreak : AS := fun De ρ S => De.bk ρ S
def sCont : AS := fun De ρ S => De.ct ρ S
theorem js_break : JS X n (.Break pos) sBreak := PS.imp ps_break fun De σ H ⟨w, ρ, S, D', st, h, k⟩ => k.bk w ρ S σ H Stp.refl st h
theorem js_continue : JS X n (.Continue pos) sCont := PS.imp ps_continue fun De σ H ⟨w, ρ, S, D', st, h, k⟩ => k.ct w ρ S σ H Stp.refl st h
def sDrop (ta : AM D) : AS := sBind ta fun _ => sNext
theorem js_expr (he : JE X n e ta) (hs : swapsWith e none pos.line X.env = pure false := by rfl) : JS X n (.Expr e pos) (sDrop ta) := PS.imp (ps_expr he hs) fun De σ H h => by
  refine (upS.bind h).mono ?_
  rintro v H1 ⟨w1, ρ, S1, D', d, st1, r1, hf, k⟩
  exact k.nx w1 ρ S1 σ H1 Stp.refl st1 hf
def sRet (ta : AM D) : AS := sBind ta fun d De _ S => De.rt d S
theorem js_ret (he : JE X n e ta) : JS X n (.Return (some e) pos) (sRet ta) := PS.imp (ps_ret he) fun De σ H h => by
  refine (upS.bind h).mono ?_
  rintro v H1 ⟨w1, ρ, S1, D', d, st1, r1, hf, k⟩
  exact k.rt w1 S1 H1 d v Stp.refl st1.wf r1 hf
def sRetN : AS := fun De _ S => De.rt .non S
theorem js_retN : JS X n (.Return none pos) sRetN := PS.imp ps_retN fun De σ H ⟨w, ρ, S, D', st, h, k⟩ => k.rt w S H .non .non Stp.refl st.wf .non h
def sIf (c : AM Bool) (t u : AS) : AS := sBind c fun b De ρ S => if b = true then t De ρ S else u De ρ S
theorem js_if {c : Expr} {a b : List Stmt} (hc : JT X n c tc) (ha : JSs X n a t) (hb : JSs X n b u) : JS X n (.If c a b pos) (sIf tc t u) := PS.imp (ps_if hc ha hb) fun De σ H h => by
  refine (upS.bind h).mono ?_
  rintro v H1 ⟨w1, ρ, S1, D', d, st1, rfl, hf, k⟩
  cases d with
  | true => rw [if_pos rfl] at hf ⊢; exact ⟨w1, ρ, S1, D', st1, hf, k⟩
  | false => rw [if_neg Bool.false_ne_true] at hf ⊢; exact ⟨w1, ρ, S1, D', st1, hf, k⟩
/-- code that is never come to -/
def sNever : AS := fun _ _ _ => False
theorem js_never : JS X n st sNever := PS.imp ps_never fun _ _ _ ⟨_, _, _, _, _, h, _⟩ => h
theorem jss_never {sts : List Stmt} : JSs X n sts sNever := PSs.imp pss_never fun _ _ _ ⟨_, _, _, _, _, h, _⟩ => h
/-! stores -/
def sSet (ta : AM D) (i : Nat) : AS := sBind ta fun d De ρ S => De.nx (ρ.set i (some d)) S
theorem js_set {i : Nat} {x : Str} (hN : X.N.Nodup) (hi : X.N[i]? = some x) (hx : Loc X.env.scope x) (he : JE X n e ta) (hs : swapsWith e (some (.Name x pos')) pos.line X.env = pure false := by rfl) (hf : X.fn x = true ∨ X.env.scope.names.lookup x = some .local := by first | exact .inl rfl | exact .inr rfl | assumption) :
    JS X n (.Assign [.Name x pos'] e pos) (sSet ta i) := PS.imp (ps_set hN hi hx he hs hf) fun De σ H h => by
  refine (upS.bind h).mono ?_
  rintro v H1 ⟨w1, ρ, S1, D', d, st1, r1, hf, k⟩
  exact k.nx w1 _ S1 _ H1 Stp.refl ⟨st1.wf, st1.ev.set r1, st1.gx⟩ hf
theorem up_setLc {i : Nat} {tt : TE} (hk : ∀ σ H Q, upE n ta σ H Q → tt σ H Q) {De : Ends} {σ : L2.St} {H : Hp} (h : upS n (sSet ta i) De σ H) : tAsg tt (gName i) De σ H := hk _ _ _ ((upS.bind h).mono (by
  rintro v H1 ⟨w1, ρ, S1, D', d, st1, r1, hf, k⟩
  exact k.nx w1 _ S1 _ H1 Stp.refl ⟨st1.wf, st1.ev.set r1, st1.gx⟩ hf))
section
variable {i : Nat} {y : Str} {py : Pos} {elt tg iter : Expr} {ifs : List Expr} {scope : Scope} {own : List (Str × Nat)} {spos : Pos} {ti : AM (List D)} {g : TG} {gD : AG} {tt : AM Bool} {te : AM D}
theorem js_setLc (hc : X.calm = true) (hN : X.N.Nodup) (hy : X.N[i]? = some y) (hyl : X.env.scope.names.lookup y = some .local)
    (hsw : swapsWith (.ListComp elt [⟨tg, iter, ifs, 0⟩] scope pos) (some (.Name y py)) spos.line X.env = pure true) (gl : GL n.c g gD (own.map (·.2))) (hi : JI X n tg iter ti) (ok : BlkOk X.N X.env.scope scope own)
    (hg : ∀ (s : Shared) (H : Hp) (C : Addr) (cl : List (Str × Addr)) (fp : List Addr), PG (X.blk s H scope (compEnvC scope cl C X.env) fp) tg g) (ht : ∀ (s : Shared) (H : Hp) (C : Addr) (cl : List (Str × Addr)) (fp : List Addr), PTs (X.blk s H scope (compEnvC scope cl C X.env) fp) ifs (upT n.no tt))
    (he : ∀ (s : Shared) (H : Hp) (C : Addr) (cl : List (Str × Addr)) (fp : List Addr), JE (X.blk s H scope (compEnvC scope cl C X.env) fp) n.no elt te) (hs : ∀ x, foldedSetIterable iter X.env x = pure x := by intro _; rfl) :
    JS X n (.Assign [.Name y py] (.ListComp elt [⟨tg, iter, ifs, 0⟩] scope pos) spos) (sSet (aLc ti gD tt te (own.map (·.2))) i) := PS.imp (ps_setLc hc hN hy hyl hsw hi ok hg ht he hs) fun De σ H h => up_setLc (fun _ _ _ q => up_lc gl q) h
theorem js_setLcM (hc : X.calm = true) (hN : X.N.Nodup) (hy : X.N[i]? = some y) (hyl : X.env.scope.names.lookup y = some .local)
    (hsw : swapsWith (.ListComp elt [⟨tg, iter, ifs, 0⟩] scope pos) (some (.Name y py)) spos.line X.env = pure true) (gl : GL n.c g gD (own.map (·.2))) (hi : JI X n tg iter ti) (ok : BlkOk X.N X.env.scope scope own)
    (hg : ∀ (s : Shared) (H : Hp) (C : Addr) (cl : List (Str × Addr)) (fp : List Addr), PG (X.blk s H scope (compEnvC scope cl C X.env) fp) tg g) (ht : ∀ (s : Shared) (H : Hp) (C : Addr) (cl : List (Str × Addr)) (fp : List Addr), PTs (X.blk s H scope (compEnvC scope cl C X.env) fp) ifs (upT n.no tt))
    (he : ∀ (s : Shared) (H : Hp) (C : Addr) (cl : List (Str × Addr)) (fp : List Addr), JE (X.blk s H scope (compEnvC scope cl C X.env) fp) n.no elt te) (hs : ∀ x, foldedSetIterable iter X.env x = pure x := by intro _; rfl) :
    JS X n (.Assign [.Name y py] (.ListComp elt [⟨tg, iter, ifs, 0⟩] scope pos) spos) (sSet (aLcM ti gD tt te (own.map (·.2))) i) := PS.imp (ps_setLc hc hN hy hyl hsw hi ok hg ht he hs) fun De σ H h => up_setLc (fun _ _ _ q => up_lcM gl q) h
end
/-- a, b, .. = e -/
def sUn (ta : AM D) (g : AG) : AS := sBind ta fun d De ρ S => g d ρ fun ρ1 => De.nx ρ1 S
theorem js_un {tg : Expr} {g : TG} {gD : AG} {vs : List Nat} (gl : GL n.c g gD vs) (he : JE X n e ta) (hg : PG X tg g) (hs : swapsWithSole [tg] e pos.line X.env = pure false := by rfl) (hw : swappedStores [tg] e X.env = pure none := by rfl)
    (h1 : (assignEach [tg] X.env).map (·.2) = [assign tg X.env] := by rfl) : JS X n (.Assign [tg] e pos) (sUn ta gD) := PS.imp (ps_asg he hg hs hw h1) fun De σ H h => by
  refine (upS.bind h).mono ?_
  rintro v H1 ⟨w1, ρ, S1, D', d, st1, r1, hf, k⟩
  exact gl n.g w1 ρ S1 σ H1 d v _ _ st1 r1 hf fun ρ' σ' st' _ q => k.nx w1 ρ' S1 σ' H1 Stp.refl st' q
/-- a, b = x, y -/
def sPar (i j : Nat) (t : AM (List D)) : AS := sBind t fun ds De ρ S => opt (two2 ds) fun p => De.nx ((ρ.set i (some p.1)).set j (some p.2)) S
theorem js_par {i j : Nat} {x y : Str} {a b : Expr} {ta : AM (List D)} {px py pt : Pos} {kt k2 pt2} (hc : X.calm = true) (hN : X.N.Nodup) (hi : X.N[i]? = some x) (hj : X.N[j]? = some y) (hij : i ≠ j)
    (hx : X.env.scope.names.lookup x = some .local) (hy : X.env.scope.names.lookup y = some .local) (ha : JA X n [a, b] ta)
    (hw : swappedStores [.Tuple [.Name x px, .Name y py] kt pt] (.Tuple [a, b] k2 pt2) X.env = pure (some [x, y]))
    (hs : swapsWithSole [.Tuple [.Name x px, .Name y py] kt pt] (.Tuple [a, b] k2 pt2) pos.line X.env = pure false := by rfl) :
    JS X n (.Assign [.Tuple [.Name x px, .Name y py] kt pt] (.Tuple [a, b] k2 pt2) pos) (sPar i j ta) := PS.imp (ps_par hc hN hi hj hij hx hy ha hw hs) fun De σ H h => by
  refine (upS.bind h).mono ?_
  rintro vs H1 ⟨w1, ρ, S1, D', ds, st1, r1, hf, k⟩
  obtain ⟨p, e1, q⟩ := opt_some hf
  obtain ⟨v, v', rfl, rv, rw'⟩ := two_rel e1 r1
  exact ⟨v, v', rfl, k.nx w1 _ S1 _ H1 Stp.refl ⟨st1.wf, (st1.ev.set rv).set rw', st1.gx⟩ q⟩
/-! stores into the row of objects -/
def refOf : D → Option Nat
  | .ref m => some m
  | _ => none
theorem refOf_rel {c : Cg} {w : Wd} {N : Nat} {H : Hp} {d : D} {v : V} {m : Nat} (h : refOf d = some m) (r : Rel c w N H d v) : d = .ref m ∧ m < N ∧ v = .ref (w.i m) := by
  cases d <;> simp [refOf] at h
  subst h
  cases r with
  | ref hm => exact ⟨rfl, hm, rfl⟩
def lstAt (S : Sto) (m : Nat) : Option (List D) := match S[m]? with
  | some (.lst xs) => some xs
  | _ => none
def dctAt (S : Sto) (m : Nat) : Option (List (Str × D)) := match S[m]? with
  | some (.dct xs) => some xs
  | _ => none
def insAt (S : Sto) (m : Nat) (C : Str) : Option (List (Str × D)) := match S[m]? with
  | some (.ins C' fs) => if C' = C then some fs else none
  | _ => none
theorem lstAt_rel {c : Cg} {w : Wd} {S : Sto} {H : Hp} {m : Nat} {xs : List D} (f : Wf c w S H) (h : lstAt S m = some xs) : S[m]? = some (.lst xs) ∧ m < S.length ∧ ∃ vs, H (w.i m) = some (.lst vs) ∧ RelL c w S.length H xs vs := by
  unfold lstAt at h
  cases e : S[m]? with
  | none => rw [e] at h; cases h
  | some o =>
    rw [e] at h
    cases o with
    | lst ys => cases h; exact ⟨rfl, (List.getElem?_eq_some_iff.mp e).1, f.obj m _ e⟩
    | ins C fs => cases h
    | dct kvs => cases h
theorem dctAt_rel {c : Cg} {w : Wd} {S : Sto} {H : Hp} {m : Nat} {xs : List (Str × D)} (f : Wf c w S H) (h : dctAt S m = some xs) : S[m]? = some (.dct xs) ∧ m < S.length ∧ ∃ kvs, H (w.i m) = some (.dK kvs) ∧ kvs.map (·.1) = xs.map (fun p => Sum.inr p.1) ∧ RelL c w S.length H (xs.map (·.2)) (kvs.map (·.2)) := by
  unfold dctAt at h
  cases e : S[m]? with
  | none => rw [e] at h; cases h
  | some o =>
    rw [e] at h
    cases o with
    | lst ys => cases h
    | ins C fs => cases h
    | dct kvs => cases h; exact ⟨rfl, (List.getElem?_eq_some_iff.mp e).1, f.obj m _ e⟩
theorem insAt_rel {c : Cg} {w : Wd} {S : Sto} {H : Hp} {m : Nat} {C : Str} {fs : List (Str × D)} (f : Wf c w S H) (h : insAt S m C = some fs) : S[m]? = some (.ins C fs) ∧ m < S.length ∧ ∃ dx fs', H (w.i m) = some (.ins (c.cA C) dx fs') ∧ fs'.map (·.1) = fs.map (·.1) ∧ RelL c w S.length H (fs.map (·.2)) (fs'.map (·.2)) := by
  unfold insAt at h
  cases e : S[m]? with
  | none => rw [e] at h; cases h
  | some o =>
    rw [e] at h
    cases o with
    | lst ys => cases h
    | dct kvs => cases h
    | ins C' fs' =>
      simp only at h
      split at h
      · rename_i z
        cases h
        subst z
        exact ⟨rfl, (List.getElem?_eq_some_iff.mp e).1, f.obj m _ e⟩
      · cases h
/-- a list of the row is written -/
theorem wr_lst {c : Cg} {w : Wd} {S : Sto} {H : Hp} {m : Nat} {ys : List D} {us : List V} (f : Wf c w S H) (hm : m < S.length) (r : RelL c w S.length H ys us) : Stp w S.length H w (S.set m (.lst ys)).length (upd H (w.i m) (.lst us)) ∧ Wf c w (S.set m (.lst ys)) (upd H (w.i m) (.lst us)) := by
  have s := Stp.set f hm (.lst us)
  exact ⟨by rw [List.length_set]; exact s, f.set hm (o := .lst ys) ⟨us, upd_same, r.stp s⟩⟩
theorem wr_ins {c : Cg} {w : Wd} {S : Sto} {H : Hp} {m : Nat} {C : Str} {dx : Addr} {fs : List (Str × D)} {fs' : List (Str × V)} (f : Wf c w S H) (hm : m < S.length) (hn : fs'.map (·.1) = fs.map (·.1)) (r : RelL c w S.length H (fs.map (·.2)) (fs'.map (·.2))) :
    Stp w S.length H w (S.set m (.ins C fs)).length (upd H (w.i m) (.ins (c.cA C) dx fs')) ∧ Wf c w (S.set m (.ins C fs)) (upd H (w.i m) (.ins (c.cA C) dx fs')) := by
  have s := Stp.set f hm (.ins (c.cA C) dx fs')
  exact ⟨by rw [List.length_set]; exact s, f.set hm (o := .ins C fs) ⟨dx, fs', upd_same, hn, r.stp s⟩⟩
theorem wr_dct {c : Cg} {w : Wd} {S : Sto} {H : Hp} {m : Nat} {fs : List (Str × D)} {fs' : List (Key × V)} (f : Wf c w S H) (hm : m < S.length) (hn : fs'.map (·.1) = fs.map (fun p => Sum.inr p.1)) (r : RelL c w S.length H (fs.map (·.2)) (fs'.map (·.2))) :
    Stp w S.length H w (S.set m (.dct fs)).length (upd H (w.i m) (.dK fs')) ∧ Wf c w (S.set m (.dct fs)) (upd H (w.i m) (.dK fs')) := by
  have s := Stp.set f hm (.dK fs')
  exact ⟨by rw [List.length_set]; exact s, f.set hm (o := .dct fs) ⟨fs', upd_same, hn, r.stp s⟩⟩
/-- xs[i] = e -/
def sPutL (tv ta tb : AM D) : AS := sBind tv fun v => sBind ta fun d => sBind tb fun i => fun De ρ S => opt (refOf d) fun m => opt (lstAt S m) fun xs => opt (asI i) fun k => opt (ixN xs.length k) fun j => De.nx ρ (S.set m (.lst (xs.set j v)))
theorem js_putL {ie : Expr} (ho : JE X n o ta) (hi : JE X n ie tb) (hv : JE X n e tv)
    (ha : ∀ v, assign (.Subscript o ie pos') X.env v = (do
      let ov ← holding [v] (eval o X.env)
      let iv ← holding [v, ov] (eval ie X.env)
      standAt pos'
      holding [v, ov, iv] (setItem ov iv v)
      release [v, ov, iv] []) := by intro _; rfl)
    (hs : swapsWithSole [.Subscript o ie pos'] e pos.line X.env = pure false := by rfl) (hw : swappedStores [.Subscript o ie pos'] e X.env = pure none := by rfl)
    (h1 : (assignEach [.Subscript o ie pos'] X.env).map (·.2) = [assign (.Subscript o ie pos') X.env] := by rfl) : JS X n (.Assign [.Subscript o ie pos'] e pos) (sPutL tv ta tb) := PS.imp (ps_asg hv (pg_sub ho hi set_list ha) hs hw h1) fun De σ H h => by
  obtain ⟨w, ρ, S, D', st, h, k⟩ := h
  refine (sW.bind st h k).mono ?_
  rintro v H1 ⟨w1, S1, vd, st1, _, r1, h1, k1⟩
  refine (sW.bind st1 h1 k1).mono ?_
  rintro ov H2 ⟨w2, S2, od, st2, s2, r2, h2, k2⟩
  refine (sW.bind st2 h2 k2).mono ?_
  rintro iv H3 ⟨w3, S3, id, st3, s3, r3, h3, k3⟩
  obtain ⟨m, e1, h3⟩ := opt_some h3
  obtain ⟨xs, e2, h3⟩ := opt_some h3
  obtain ⟨j, e3, h3⟩ := opt_some h3
  obtain ⟨jj, e4, q⟩ := opt_some h3
  obtain ⟨rfl, hm, rfl⟩ := refOf_rel e1 (r2.stp s3)
  obtain ⟨_, rfl⟩ := asI_rel e3 r3
  obtain ⟨_, _, us, hu, hl⟩ := lstAt_rel st3.wf e2
  obtain ⟨s4, f4⟩ := wr_lst st3.wf hm (hl.set jj ((r1.stp s2).stp s3))
  exact ⟨_, us, j, jj, rfl, rfl, hu, by rw [← hl.len]; exact e4, k3.nx w3 ρ _ σ _ s4 (st3.step s4 f4) q⟩
/-- d['k'] = e -/
def putS (fs : List (Str × D)) (k : Str) (v : D) : List (Str × D) := if (fs.any fun p => decide (p.1 = k)) = true then fs.map (fun p => if p.1 = k then (p.1, v) else p) else fs ++ [(k, v)]
def sPutD (tv ta tb : AM D) : AS := sBind tv fun v => sBind ta fun d => sBind tb fun i => fun De ρ S => opt (refOf d) fun m => opt (dctAt S m) fun xs => opt (asS i) fun k => xs.length < big ∧ De.nx ρ (S.set m (.dct (putS xs k v)))
theorem putS_rel {c : Cg} {w : Wd} {N : Nat} {H : Hp} {k : Str} {d : D} {v : V} (rv : Rel c w N H d v) : ∀ {fs : List (Str × D)} {kvs : List (Key × V)}, kvs.map (·.1) = fs.map (fun p => Sum.inr p.1) → RelL c w N H (fs.map (·.2)) (kvs.map (·.2)) →
    ((kvs.any fun kv => decide (kv.1 = Sum.inr k)) = fs.any fun p => decide (p.1 = k)) ∧
    (kvs.map (fun kv => if kv.1 = Sum.inr k then (kv.1, v) else kv)).map (·.1) = (fs.map (fun p => if p.1 = k then (p.1, d) else p)).map (fun p => (Sum.inr p.1 : Key)) ∧
    RelL c w N H ((fs.map (fun p => if p.1 = k then (p.1, d) else p)).map (·.2)) ((kvs.map (fun kv => if kv.1 = Sum.inr k then (kv.1, v) else kv)).map (·.2))
  | [], [], _, _ => ⟨rfl, rfl, .nil⟩
  | [], _ :: _, h, _ => by simp at h
  | _ :: _, [], h, _ => by simp at h
  | (a, x) :: fs, (b, y) :: kvs, h, r => by
    simp only [List.map_cons, List.cons.injEq] at h
    obtain ⟨rfl, h⟩ := h
    simp only [List.map_cons] at r
    cases r with
    | cons r rs =>
      obtain ⟨i1, i2, i3⟩ := putS_rel rv h rs
      have e : ((Sum.inr a : Key) = Sum.inr k) ↔ a = k := ⟨fun z => Sum.inr.inj z, fun z => by rw [z]⟩
      refine ⟨by simp only [List.any_cons, i1]; congr 1; simp [e], ?_, ?_⟩
      · simp only [List.map_cons]
        rw [i2]
        by_cases z : a = k
        · rw [if_pos (e.mpr z), if_pos z]
        · rw [if_neg (fun q => z (e.mp q)), if_neg z]
      · simp only [List.map_cons]
        by_cases z : a = k
        · rw [if_pos (e.mpr z), if_pos z]; exact .cons rv i3
        · rw [if_neg (fun q => z (e.mp q)), if_neg z]; exact .cons r i3
theorem putK_rel {c : Cg} {w : Wd} {N : Nat} {H : Hp} {k : Str} {d : D} {v : V} (rv : Rel c w N H d v) {fs : List (Str × D)} {kvs : List (Key × V)} (h : kvs.map (·.1) = fs.map (fun p => Sum.inr p.1)) (r : RelL c w N H (fs.map (·.2)) (kvs.map (·.2))) :
    (putK kvs (Sum.inr k) v).map (·.1) = (putS fs k d).map (fun p => (Sum.inr p.1 : Key)) ∧ RelL c w N H ((putS fs k d).map (·.2)) ((putK kvs (Sum.inr k) v).map (·.2)) := by
  obtain ⟨h1, h2, h3⟩ := putS_rel (k := k) rv h r
  unfold putK putS
  rw [h1]
  split
  · exact ⟨h2, h3⟩
  · simp only [List.map_append, List.map_cons, List.map_nil]
    exact ⟨by rw [h], r.append (.cons rv .nil)⟩
theorem js_putD {ie : Expr} (hu : X.A.units + 1 < cLine) (ho : JE X n o ta) (hi : JE X n ie tb) (hv : JE X n e tv) (hs : swapsWith e (some (.Subscript o ie pos')) pos.line X.env = pure false := by rfl) :
    JS X n (.Assign [.Subscript o ie pos'] e pos) (sPutD tv ta tb) := PS.imp (ps_dput hu ho hi hv hs) fun De σ H h => by
  obtain ⟨w, ρ, S, D', st, h, k⟩ := h
  refine (sW.bind st h k).mono ?_
  rintro v H1 ⟨w1, S1, vd, st1, _, r1, h1, k1⟩
  refine (sW.bind st1 h1 k1).mono ?_
  rintro ov H2 ⟨w2, S2, od, st2, s2, r2, h2, k2⟩
  refine (sW.bind st2 h2 k2).mono ?_
  rintro iv H3 ⟨w3, S3, id, st3, s3, r3, h3, k3⟩
  obtain ⟨m, e1, h3⟩ := opt_some h3
  obtain ⟨xs, e2, h3⟩ := opt_some h3
  obtain ⟨kk, e3, hz, q⟩ := opt_some h3
  obtain ⟨rfl, hm, rfl⟩ := refOf_rel e1 (r2.stp s3)
  obtain ⟨_, rfl⟩ := asS_rel e3 r3
  obtain ⟨_, _, kvs, hu, hn, hl⟩ := dctAt_rel st3.wf e2
  obtain ⟨p1, p2⟩ := putK_rel (k := kk) ((r1.stp s2).stp s3) hn hl
  obtain ⟨s4, f4⟩ := wr_dct st3.wf hm p1 p2
  have len : kvs.length = xs.length := by have := congrArg List.length hn; simpa using this
  exact ⟨_, _, rfl, DPut.k (k := Sum.inr kk) hu (by rw [len]; exact big_lt hz), k3.nx w3 ρ _ σ _ s4 (st3.step s4 f4) q⟩
/-- o.f = e -/
def putFD (f : Str) (v : D) : List (Str × D) → List (Str × D)
  | [] => [(f, v)]
  | (k, x) :: r => if k = f then (k, v) :: r else (k, x) :: putFD f v r
end
end A

set_option Elab.async false
set_option linter.all false
set_option maxRecDepth 100000
set_option maxHeartbeats 4000000
namespace A
open PySem PySem.Spec PyProof.Rows L2
/-! ### attributes are written -/
theorem putF_rel {c : Cg} {w : Wd} {N : Nat} {H : Hp} {f : Str} {d : D} {v : V} (rv : Rel c w N H d v) : ∀ {fs : List (Str × D)} {fs' : List (Str × V)}, fs'.map (·.1) = fs.map (·.1) → RelL c w N H (fs.map (·.2)) (fs'.map (·.2)) →
    (putF f v fs').map (·.1) = (putFD f d fs).map (·.1) ∧ RelL c w N H ((putFD f d fs).map (·.2)) ((putF f v fs').map (·.2))
  | [], [], _, _ => ⟨rfl, .cons rv .nil⟩
  | [], _ :: _, h, _ => by simp at h
  | _ :: _, [], h, _ => by simp at h
  | (a, x) :: fs, (b, y) :: fs', h, r => by
    simp only [List.map_cons, List.cons.injEq] at h
    obtain ⟨rfl, h⟩ := h
    simp only [List.map_cons] at r
    cases r with
    | cons r rs =>
      obtain ⟨i1, i2⟩ := putF_rel rv h rs
      unfold putF putFD
      by_cases z : b = f
      · rw [if_pos z, if_pos z]
        simp only [List.map_cons]
        exact ⟨by rw [h], .cons rv rs⟩
      · rw [if_neg z, if_neg z]
        simp only [List.map_cons]
        exact ⟨by rw [i1], .cons r i2⟩
section
variable {X : Cx} {n : Cn} {st : Stmt} {rest body : List Stmt} {t u : AS} {e o value : Expr} {ta tb tv : AM D} {tc : AM Bool} {pos pos' tpos apos cpos : Pos} {C f : Str}
def sFldD (C f : Str) (ta tv : AM D) : AS := sBind tv fun v => sBind ta fun d => fun De ρ S => opt (refOf d) fun m => opt (insAt S m C) fun fs => fs.length < 100 ∧ De.nx ρ (S.set m (.ins C (putFD f v fs)))
theorem js_fld (T : FldOk n.c C f) (ha : JE X n o ta) (hv : JE X n value tv) (hs : swapsWith value (some (.Attribute o f pos')) pos.line X.env = pure false) (hK : X.K = n.c.K := by rfl) : JS X n (.Assign [.Attribute o f pos'] value pos) (sFldD C f ta tv) :=
  PS.imp (ps_fld ha hv hs) fun De σ H h => by
  obtain ⟨w, ρ, S, D', st, h, k⟩ := h
  refine (sW.bind st h k).mono ?_
  rintro v H1 ⟨w1, S1, vd, st1, _, r1, h1, k1⟩
  refine (sW.bind st1 h1 k1).mono ?_
  rintro ov H2 ⟨w2, S2, od, st2, s2, r2, h2, k2⟩
  obtain ⟨m, e1, h2⟩ := opt_some h2
  obtain ⟨fs, e2, hz, q⟩ := opt_some h2
  obtain ⟨rfl, hm, rfl⟩ := refOf_rel e1 r2
  obtain ⟨_, _, dx, fs', hu, hn, hl⟩ := insAt_rel st2.wf e2
  obtain ⟨p1, p2⟩ := putF_rel (f := f) (r1.stp s2) hn hl
  obtain ⟨s4, f4⟩ := wr_ins (C := C) (dx := dx) st2.wf hm p1 p2
  have len : fs'.length = fs.length := by have := congrArg List.length hn; simpa using this
  rw [hK]
  exact ⟨_, _, dx, fs', rfl, hu, T.1, T.2, by omega, k2.nx w2 ρ _ σ _ s4 (st2.step s4 f4) q⟩
/-- o.f += e (ints) -/
def sFldAugD (C f : Str) (g : Int → Int → Int) (ta tv : AM D) : AS := sBind ta fun d => fun De ρ S => opt (refOf d) fun m => opt (insAt S m C) fun fs => opt (fs.lookup f) fun x => opt (asI x) fun i =>
  sBind tv (fun y => fun De ρ S => opt (asI y) fun j => opt (insAt S m C) fun fs => fs.length < 100 ∧ De.nx ρ (S.set m (.ins C (putFD f (.int (g i j)) fs)))) De ρ S
theorem js_fldAdd (T : FldOk n.c C f) (ha : JE X n o ta) (hv : JE X n value tv) (hK : X.K = n.c.K := by rfl) : JS X n (.AugAssign (.Attribute o f tpos) .Add value pos) (sFldAugD C f (fun i j => i + j) ta tv) :=
  PS.imp (ps_fldaug (rd := ipI fun i j => i + j) ha hv ip_add) fun De σ H h => by
  obtain ⟨w, ρ, S, D', st, h, k⟩ := h
  refine (sW.bind st h k).mono ?_
  rintro ov H1 ⟨w1, S1, od, st1, _, r1, h1, k1⟩
  obtain ⟨m, e1, ha⟩ := opt_some h1
  obtain ⟨fs, e2, hb⟩ := opt_some ha
  obtain ⟨x, e3, hc⟩ := opt_some hb
  obtain ⟨i, e4, hd⟩ := opt_some hc
  obtain ⟨rfl, hm, rfl⟩ := refOf_rel e1 r1
  obtain ⟨_, _, dx, fs', hu, hn, hl⟩ := insAt_rel st1.wf e2
  obtain ⟨v, hv1, rv⟩ := (lookup_rel hn hl).2 x e3
  obtain ⟨rfl, rfl⟩ := asI_rel e4 rv
  rw [hK]
  refine ⟨_, _, dx, fs', _, rfl, hu, T.1, T.2, hv1, (sW.bind st1 hd k1).mono ?_⟩
  rintro yv H2 ⟨w2, S2, yd, st2, s2, r2, h2, k2⟩
  obtain ⟨j, e5, h2⟩ := opt_some h2
  obtain ⟨fs2, e6, hz, q⟩ := opt_some h2
  obtain ⟨rfl, rfl⟩ := asI_rel e5 r2
  obtain ⟨_, hm2, dx2, fs2', hu2, hn2, hl2⟩ := insAt_rel st2.wf e6
  obtain ⟨p1, p2⟩ := putF_rel (f := f) (Rel.int (c := n.c) (w := w2) (N := S2.length) (H := H2) (i + j)) hn2 hl2
  obtain ⟨s4, f4⟩ := wr_ins (C := C) (dx := dx2) st2.wf hm2 p1 p2
  have len : fs2'.length = fs2.length := by have := congrArg List.length hn2; simpa using this
  rw [s2.ids m hm] at hu2 s4 f4
  refine ⟨i, j, rfl, rfl, dx2, fs2', hu2, by omega, k2.nx w2 ρ _ σ _ s4 (st2.step s4 f4) q⟩
/-! ### dicts -/
def aDGet (ta tb : AM D) : AM D := aBind ta fun d => aBind tb fun i => fun _ S Q _ => opt (refOf d) fun m => opt (dctAt S m) fun kvs => opt (asS i) fun k => opt (kvs.lookup k) fun v => Q v S
theorem valV_rel {c : Cg} {w : Wd} {N : Nat} {H : Hp} {k : Str} : ∀ {fs : List (Str × D)} {kvs : List (Key × V)}, kvs.map (·.1) = fs.map (fun p => Sum.inr p.1) → RelL c w N H (fs.map (·.2)) (kvs.map (·.2)) → ∀ d, fs.lookup k = some d → ∃ v, valV kvs (Sum.inr k) = some v ∧ Rel c w N H d v
  | [], [], _, _, d, h => by simp at h
  | [], _ :: _, h, _, _, _ => by simp at h
  | _ :: _, [], h, _, _, _ => by simp at h
  | (a, x) :: fs, (b, y) :: kvs, h, r, d, hd => by
    simp only [List.map_cons, List.cons.injEq] at h
    obtain ⟨rfl, h⟩ := h
    simp only [List.map_cons] at r
    cases r with
    | cons r rs =>
      simp only [List.lookup_cons] at hd
      by_cases z : a = k
      · subst z
        simp at hd
        subst hd
        exact ⟨y, by simp [valV], r⟩
      · have zb : (k == a) = false := by simpa using fun q => z q.symm
        rw [zb] at hd
        obtain ⟨v, h1, h2⟩ := valV_rel h rs d hd
        refine ⟨v, ?_, h2⟩
        have zk : ¬ ((Sum.inr a : Key) = Sum.inr k) := fun q => z (Sum.inr.inj q)
        unfold valV at h1 ⊢
        rw [List.find?_cons_of_neg (by simpa using z)]
        exact h1
theorem j_dget {ie : Expr} (hu : X.A.units + 1 < cLine) (ho : JE X n o ta) (hi : JE X n ie tb) (hs : NoSl ie) : JE X n (.Subscript o ie pos) (aDGet ta tb) := PE.imp (pe_dget hu ho hi hs) fun σ H Q ⟨w, ρ, S, st, h⟩ => by
  refine (upW.bind st h).mono ?_
  rintro x H1 ⟨w1, S1, d, st1, _, r1, h1⟩
  refine (upW.bind st1 h1).mono ?_
  rintro y H2 ⟨w2, S2, i, st2, s2, r2, h2⟩
  refine h2.op fun Q' hf hq => ?_
  obtain ⟨m, e1, hf⟩ := opt_some hf
  obtain ⟨kvs, e2, hf⟩ := opt_some hf
  obtain ⟨k, e3, hf⟩ := opt_some hf
  obtain ⟨v, e4, q⟩ := opt_some hf
  obtain ⟨rfl, hm, rfl⟩ := refOf_rel e1 (r1.stp s2)
  obtain ⟨_, rfl⟩ := asS_rel e3 r2
  obtain ⟨_, _, kvs', hu', hn, hl⟩ := dctAt_rel st2.wf e2
  obtain ⟨u, hu2, ru⟩ := valV_rel hn hl v e4
  refine ⟨_, u, rfl, ?_, fin0 st2.wf hq ru q⟩
  have := DGet.k (k := Sum.inr k) hu'
  rw [hu2] at this
  exact this
/-- {'a': e, ..} -/
def aPairs : List (Str × AM D) → AM (List (Str × D))
  | [] => fun _ S Q _ => Q [] S
  | (k, t) :: r => aBind t fun v => aBind (aPairs r) fun ps => fun _ S Q _ => Q ((k, v) :: ps) S
/-! ### methods of lists -/
def isL (S : Sto) (d : D) : Option Nat := (refOf d).bind fun m => (lstAt S m).map fun _ => m
theorem isL_rel {w : Wd} {S : Sto} {H : Hp} {d : D} {v : V} {m : Nat} (f : Wf n.c w S H) (e : isL S d = some m) (r : Rel n.c w S.length H d v) (hK : X.K = n.c.K) : d = .ref m ∧ m < S.length ∧ v = .ref (w.i m) ∧ tyV X.K "list" v H := by
  unfold isL at e
  obtain ⟨m', e1, e2⟩ := Option.bind_eq_some_iff.mp e
  obtain ⟨xs, e3, e4⟩ := Option.map_eq_some_iff.mp e2
  subst e4
  obtain ⟨rfl, hm, rfl⟩ := refOf_rel e1 r
  obtain ⟨_, _, vs, hu, hl⟩ := lstAt_rel f e3
  exact ⟨rfl, hm, rfl, .inl ⟨rfl, vs, SqL.of hu⟩⟩
def aAppend (ta : AM D) (t : AM (List D)) : AM D := aBind ta fun d => fun ρ S Q E => opt (isL S d) fun m => aBind t (fun ds => fun _ S Q _ => opt (lstAt S m) fun xs => opt (one1 ds) fun y => xs.length < big ∧ Q .non (S.set m (.lst (xs ++ [y])))) ρ S Q E
def aExtend (ta : AM D) (t : AM (List D)) : AM D := aBind ta fun d => fun ρ S Q E => opt (isL S d) fun m => aBind t (fun ds => fun _ S Q _ => opt (lstAt S m) fun xs => opt (one1 ds) fun y => opt (lv S y) fun ys => xs.length + ys.length ≤ big ∧ Q .non (S.set m (.lst (xs ++ ys)))) ρ S Q E
def aPop (ta : AM D) : AM D := aBind ta fun d => fun _ S Q _ => opt (isL S d) fun m => opt (lstAt S m) fun xs => opt (xs[xs.length - 1]?) fun y => Q y (S.set m (.lst xs.dropLast))
theorem RelL.dropLast {c : Cg} {w : Wd} {N : Nat} {H : Hp} {ds : List D} {vs : List V} (h : RelL c w N H ds vs) : RelL c w N H ds.dropLast vs.dropLast := by
  rw [List.dropLast_eq_take, List.dropLast_eq_take, h.len]
  exact h.take _
variable {es : List Expr} {t : AM (List D)}
theorem j_append (ho : JE X n o ta) (ha : JA X n (e :: es) t) (hbase : attributeBase o "append" X.env (eval o X.env) = eval o X.env := by rfl)
    (hfew : ((backTo cpos (starEach (e :: es) X.env)).all (fun x => !x.1) && (backToKw cpos (keywordEach [] X.env)).all (fun x => x.1.isSome)
      && decide ((e :: es).length + ([] : List Keyword).length + (if ([] : List Keyword).isEmpty then 0 else 1) < 30)) = true := by rfl)
    (hline : (apos.endLine == cpos.line) = true := by rfl) (hs : starEach (e :: es) X.env = (false, eval e X.env) :: starEach es X.env := by rfl) (hplain : (backTo cpos (starEach es X.env)).any (·.1) = false := by rfl) (hK : X.K = n.c.K := by rfl) :
    JE X n (.Call (.Attribute o "append" apos) (e :: es) [] cpos) (aAppend ta t) :=
  PE.imp (pe_bm PySem.F.plainAttrs_list PySem.F.slot_list_append PySem.F.type_list_append mt_append ho ha hbase hfew hline hs hplain) fun σ H Q ⟨w, ρ, S, st, h⟩ => by
  refine (upW.bind st h).mono ?_
  rintro v H1 ⟨w1, S1, d, st1, _, r1, Q', E', ht, hq, he⟩
  obtain ⟨m, e1, hb⟩ := opt_some ht
  obtain ⟨rfl, hm, rfl, ty⟩ := isL_rel (X := X) st1.wf e1 r1 hK
  refine ⟨ty, ?_⟩
  have h1 : upW n.c n.W (Rel n.c) (aBind t (fun ds => fun _ S Q _ => opt (lstAt S m) fun xs => opt (one1 ds) fun y => xs.length < big ∧ Q .non (S.set m (.lst (xs ++ [y]))))) w1 ρ S1 σ H1 Q := ⟨Q', E', hb, hq, he⟩
  refine (upW.bind st1 h1).mono ?_
  rintro us H2 ⟨w2, S2, ds, st2, s2, r2, h2⟩
  refine h2.op fun Q' hf hq => ?_
  obtain ⟨xs, e2, hc⟩ := opt_some hf
  obtain ⟨y, e3, hz, q⟩ := opt_some hc
  obtain ⟨yv, rfl, ry⟩ := one_rel e3 r2
  obtain ⟨_, hm2, vs, hu, hl⟩ := lstAt_rel st2.wf e2
  obtain ⟨s4, f4⟩ := wr_lst st2.wf hm2 (hl.append (.cons ry .nil))
  rw [s2.ids m hm] at hu s4 f4
  exact ⟨_, vs, yv, rfl, rfl, hu, by rw [← hl.len]; exact big_lt hz, hq _ _ _ _ _ s4 f4 .non q⟩
theorem j_extend (ho : JE X n o ta) (ha : JA X n (e :: es) t) (hbase : attributeBase o "extend" X.env (eval o X.env) = eval o X.env := by rfl)
    (hfew : ((backTo cpos (starEach (e :: es) X.env)).all (fun x => !x.1) && (backToKw cpos (keywordEach [] X.env)).all (fun x => x.1.isSome)
      && decide ((e :: es).length + ([] : List Keyword).length + (if ([] : List Keyword).isEmpty then 0 else 1) < 30)) = true := by rfl)
    (hline : (apos.endLine == cpos.line) = true := by rfl) (hs : starEach (e :: es) X.env = (false, eval e X.env) :: starEach es X.env := by rfl) (hplain : (backTo cpos (starEach es X.env)).any (·.1) = false := by rfl) (hK : X.K = n.c.K := by rfl) :
    JE X n (.Call (.Attribute o "extend" apos) (e :: es) [] cpos) (aExtend ta t) :=
  PE.imp (pe_bm PySem.F.plainAttrs_list PySem.F.slot_list_extend PySem.F.type_list_extend mt_extend ho ha hbase hfew hline hs hplain) fun σ H Q ⟨w, ρ, S, st, h⟩ => by
  refine (upW.bind st h).mono ?_
  rintro v H1 ⟨w1, S1, d, st1, _, r1, Q', E', ht, hq, he⟩
  obtain ⟨m, e1, hb⟩ := opt_some ht
  obtain ⟨rfl, hm, rfl, ty⟩ := isL_rel (X := X) st1.wf e1 r1 hK
  refine ⟨ty, ?_⟩
  have h1 : upW n.c n.W (Rel n.c) (aBind t (fun ds => fun _ S Q _ => opt (lstAt S m) fun xs => opt (one1 ds) fun y => opt (lv S y) fun ys => xs.length + ys.length ≤ big ∧ Q .non (S.set m (.lst (xs ++ ys))))) w1 ρ S1 σ H1 Q := ⟨Q', E', hb, hq, he⟩
  refine (upW.bind st1 h1).mono ?_
  rintro us H2 ⟨w2, S2, ds, st2, s2, r2, h2⟩
  refine h2.op fun Q' hf hq => ?_
  obtain ⟨xs, e2, hc⟩ := opt_some hf
  obtain ⟨y, e3, hd⟩ := opt_some hc
  obtain ⟨ys, e4, hz, q⟩ := opt_some hd
  obtain ⟨yv, rfl, ry⟩ := one_rel e3 r2
  obtain ⟨b, zs, rfl, hb2, lb⟩ := lv_rel st2.wf e4 ry
  obtain ⟨_, hm2, vs, hu, hl⟩ := lstAt_rel st2.wf e2
  obtain ⟨s4, f4⟩ := wr_lst st2.wf hm2 (hl.append lb)
  rw [s2.ids m hm] at hu s4 f4
  exact ⟨_, b, vs, zs, rfl, rfl, hu, hb2, by rw [← hl.len, ← lb.len]; exact big_le hz, hq _ _ _ _ _ s4 f4 .non q⟩
theorem j_pop (ho : JE X n o ta) (hbase : attributeBase o "pop" X.env (eval o X.env) = eval o X.env := by rfl) (hline : (apos.endLine == cpos.line) = true := by rfl) (hK : X.K = n.c.K := by rfl) : JE X n (.Call (.Attribute o "pop" apos) [] [] cpos) (aPop ta) :=
  PE.imp (pe_bm0 PySem.F.plainAttrs_list PySem.F.slot_list_pop PySem.F.type_list_pop mt_pop ho hbase hline) fun σ H Q ⟨w, ρ, S, st, h⟩ => by
  refine (upW.bind st h).mono ?_
  rintro v H1 ⟨w1, S1, d, st1, _, r1, h1⟩
  refine h1.op fun Q' hf hq => ?_
  obtain ⟨m, e1, hb⟩ := opt_some hf
  obtain ⟨xs, e2, hc⟩ := opt_some hb
  obtain ⟨y, e3, q⟩ := opt_some hc
  obtain ⟨rfl, hm, rfl, ty⟩ := isL_rel (X := X) st1.wf e1 r1 hK
  obtain ⟨_, hm2, vs, hu, hl⟩ := lstAt_rel st1.wf e2
  obtain ⟨yv, ey, ry⟩ := hl.get e3
  obtain ⟨s4, f4⟩ := wr_lst st1.wf hm2 hl.dropLast
  rw [hl.len] at ey
  exact ⟨ty, _, vs, yv, rfl, rfl, hu, ey, hq _ _ _ _ _ s4 f4 (ry.stp (by rw [List.length_set] at s4; exact s4) |> fun z => by rw [List.length_set]; exact z) q⟩
end
/-! ### loops -/
section
variable {X : Cx} {n : Cn} {body : List Stmt} {tb : AS} {e tg iter : Expr} {ti : AM (List D)} {tc : AM Bool} {g : TG} {gD : AG} {vs : List Nat} {pos : Pos}
def forX (g : AG) (tb : AS) (De : EndsA) : List D → Ev → Sto → Prop
  | [] => De.nx
  | x :: r => fun ρ S => g x ρ fun ρ1 => tb { De with nx := forX g tb De r, ct := forX g tb De r, bk := De.nx } ρ1 S
def sFor (ti : AM (List D)) (g : AG) (tb : AS) : AS := sBind ti fun xs De ρ S => forX g tb De xs ρ S
theorem js_for (gl : GL n.c g gD vs) (hp : PassesOwn (model X.prog X.w) X.A X.env X.xe) (hc : X.calm = true) (hi : JI X n tg iter ti) (hg : PG X tg g) (hb : JSs X n body tb)
    (hs : ∀ x, foldedSetIterable iter X.env x = pure x := by intro _; rfl) : JS X n (.For tg iter body [] pos) (sFor ti gD tb) := PS.imp (ps_for hp hc hi hg hb hs) fun De σ H h => by
  obtain ⟨w, ρ, S, D', st, h, k⟩ := h
  rw [tFor_eq]
  refine ⟨w, ρ, S, st, _, _, h, fun w1 S1 H1 xs s1 f1 hx J wk => ?_, fun w1 S1 H1 x cls d s1 f1 rx hx => k.ex w1 ρ S1 σ H1 x cls d s1 (st.step s1 f1) rx hx⟩
  obtain ⟨G, Y, wlk, hG, hY⟩ := wk
  refine forB wlk (fun i σ2 H2 => ∃ w2 ρ2 S2, Stp w1 S1.length H1 w2 S2.length H2 ∧ Sta n.c n.g w2 ρ2 S2 σ2 H2 ∧ forX gD tb D' (xs.drop i) ρ2 S2) ⟨w1, ρ, S1, Stp.refl, st.step s1 f1, hx⟩ ?_ ?_ ?_
  · rintro i σ2 H2 hi ⟨w2, ρ2, S2, s2, st2, _⟩
    exact hG w2 _ H2 s2
  · rintro i x σ2 H2 H3 hi ⟨w2, ρ2, S2, s2, st2, hx⟩ y
    obtain ⟨sm, d, hd', rd⟩ := hY w2 _ H2 i x H3 s2 hi y
    have sH : Stp w2 S2.length H2 w2 S2.length H3 := Stp.same sm
    have hdr : xs.drop i = d :: xs.drop (i + 1) := by
      rw [List.drop_eq_getElem?_toList_append, hd']; rfl
    rw [hdr] at hx
    have st3 := st2.step sH (st2.wf.same sm)
    have s3 : Stp w1 S1.length H1 w2 S2.length H3 := s2.trans sH
    refine gl n.g w2 ρ2 S2 σ2 H3 d x _ _ st3 rd hx fun ρ4 σ4 st4 _ hx => ⟨w2, ρ4, S2, _, st4, hx, ?_⟩
    have k3 := k.step (s1.trans s3)
    have nx : ∀ w' ρ' S' σ' H', Stp w2 S2.length H3 w' S'.length H' → Sta n.c n.g w' ρ' S' σ' H' → forX gD tb D' (xs.drop (i + 1)) ρ' S' → ∃ w2 ρ2 S2, Stp w1 S1.length H1 w2 S2.length H' ∧ Sta n.c n.g w2 ρ2 S2 σ' H' ∧ forX gD tb D' (xs.drop (i + 1)) ρ2 S2 :=
      fun w' ρ' S' σ' H' s' st' q => ⟨w', ρ', S', s3.trans s', st', q⟩
    exact ⟨nx, k3.rt, k3.nx, nx, k3.ex⟩
  · rintro σ2 H2 ⟨w2, ρ2, S2, s2, st2, hx⟩
    rw [List.drop_length] at hx
    exact k.nx w2 ρ2 S2 σ2 H2 (s1.trans s2) st2 hx
def sWhile (c : AM Bool) (tb : AS) : AS := fun De ρ S => ∃ W : Nat → Ev → Sto → Prop, (∃ m, W m ρ S) ∧ ∀ m ρ S, W m ρ S →
  c ρ S (fun b S1 => if b = true then tb { De with nx := fun ρ' S' => ∃ m', m' < m ∧ W m' ρ' S', ct := fun ρ' S' => ∃ m', m' < m ∧ W m' ρ' S', bk := De.nx } ρ S1 else De.nx ρ S1) fun x S1 => De.ex x ρ S1
theorem js_while (hp : PassesOwn (model X.prog X.w) X.A X.env X.xe) (hc : JT X n e tc) (hb : JSs X n body tb) : JS X n (.While e body [] pos) (sWhile tc tb) := PS.imp (ps_while hp hc hb) fun De σ H h => by
  obtain ⟨w, ρ, S, D', st, ⟨W, ⟨m0, h0⟩, hW⟩, k⟩ := h
  refine ⟨fun m σ2 H2 => ∃ w2 ρ2 S2, Stp w S.length H w2 S2.length H2 ∧ Sta n.c n.g w2 ρ2 S2 σ2 H2 ∧ W m ρ2 S2, ⟨m0, w, ρ, S, Stp.refl, st, h0⟩, ?_⟩
  rintro m σ2 H2 ⟨w2, ρ2, S2, s2, st2, hx⟩
  have k2 := k.step s2
  refine ⟨w2, ρ2, S2, st2, _, _, hW m ρ2 S2 hx, ?_, fun w3 S3 H3 x cls d s3 f3 rx hx => k2.ex w3 ρ2 S3 σ2 H3 x cls d s3 (st2.step s3 f3) rx hx⟩
  rintro w3 S3 H3 b b' s3 f3 rfl hx
  have st3 := st2.step s3 f3
  have k3 := k2.step s3
  cases b with
  | false => rw [if_neg Bool.false_ne_true] at hx ⊢; exact k3.nx w3 ρ2 S3 σ2 H3 Stp.refl st3 hx
  | true =>
    rw [if_pos rfl] at hx ⊢
    refine ⟨fun σ' H' => ∃ w' ρ' S', Stp w S.length H w' S'.length H' ∧ Sta n.c n.g w' ρ' S' σ' H' ∧ ∃ m', m' < m ∧ W m' ρ' S', ?_, w3, ρ2, S3, _, st3, hx, ?_⟩
    · rintro σ' H' ⟨w', ρ', S', s', st', m', hm, q⟩
      exact ⟨m', hm, w', ρ', S', s', st', q⟩
    · have nx : ∀ w' ρ' S' σ' H', Stp w3 S3.length H3 w' S'.length H' → Sta n.c n.g w' ρ' S' σ' H' → (∃ m', m' < m ∧ W m' ρ' S') → ∃ w' ρ' S', Stp w S.length H w' S'.length H' ∧ Sta n.c n.g w' ρ' S' σ' H' ∧ ∃ m', m' < m ∧ W m' ρ' S' :=
        fun w' ρ' S' σ' H' s' st' q => ⟨w', ρ', S', (s2.trans s3).trans s', st', q⟩
      exact ⟨nx, k3.rt, k3.nx, nx, k3.ex⟩
end
/-! ### match upon texts -/
section
variable {X : Cx} {n : Cn} {body : List Stmt} {rest : List MatchCase} {p : Pattern} {f : Str → Bool} {t : AS} {r : D → AS} {e : Expr} {te : AM D} {pos : Pos}
def upC (n : Cn) (t : D → AS) : V → TS := fun v De σ H => ∃ w ρ S D' d, Sta n.c n.g w ρ S σ H ∧ Rel n.c w S.length H d v ∧ t d D' ρ S ∧ OkE n w S.length H D' De
abbrev JCs (X : Cx) (n : Cn) (cs : List MatchCase) (t : D → AS) : Prop := PCs X cs (upC n t)
theorem PCs.imp {cs : List MatchCase} {t t' : V → TS} (h : PCs X cs t) (k : ∀ x De σ H, t' x De σ H → t x De σ H) : PCs X cs t' := ⟨fun first pins s σ H De x u I r q => h.run first pins s σ H De x u I r (k x De σ H q)⟩
def cxNil : D → AS := fun _ => sNext
def cxIf (f : Str → Bool) (t : AS) (r : D → AS) : D → AS := fun d De ρ S => opt (asS d) fun y => if f y = true then t De ρ S else r d De ρ S
def cxAny (t : AS) : D → AS := fun _ => t
theorem jc_nil : JCs X n [] cxNil := PCs.imp pcs_nil fun x De σ H ⟨w, ρ, S, D', d, st, r, h, k⟩ => k.nx w ρ S σ H Stp.refl st h
theorem jc_cons (h1 : PPt X p f) (h2 : JSs X n body t) (h3 : JCs X n rest r) : JCs X n (⟨p, none, body⟩ :: rest) (cxIf f t r) := PCs.imp (pcs_cons h1 h2 h3) fun x De σ H ⟨w, ρ, S, D', d, st, rd, h, k⟩ => by
  obtain ⟨y, e1, q⟩ := opt_some h
  obtain ⟨rfl, rfl⟩ := asS_rel e1 rd
  refine ⟨y, rfl, ?_⟩
  split at q
  · rename_i z; rw [if_pos z]; exact ⟨w, ρ, S, D', st, q, k⟩
  · rename_i z; rw [if_neg z]; exact ⟨w, ρ, S, D', _, st, rd, q, k⟩
theorem jc_any {pos : Pos} (h2 : JSs X n body t) : JCs X n (⟨.MatchAs none none pos, none, body⟩ :: rest) (cxAny t) := PCs.imp (pcs_any h2) fun x De σ H ⟨w, ρ, S, D', d, st, rd, h, k⟩ => ⟨w, ρ, S, D', st, h, k⟩
def sMatch (te : AM D) (t : D → AS) : AS := sBind te t
theorem js_match {cs : List MatchCase} {t : D → AS} (he : JE X n e te) (h : JCs X n cs t) : JS X n (.Match e cs pos) (sMatch te t) := PS.imp (ps_match he h) fun De σ H h => by
  refine (upS.bind h).mono ?_
  rintro v H1 ⟨w1, ρ, S1, D', d, st1, r1, hf, k⟩
  exact ⟨w1, ρ, S1, D', d, st1, r1, hf, k⟩
end
end A

set_option Elab.async false
set_option linter.all false
set_option maxRecDepth 100000
set_option maxHeartbeats 4000000
/-! own errors of two fields: class E(F): def __init__(self, p, r): super().__init__(p); self.g = r, where F is an error of one field -/
namespace PySem
namespace OwnX
open PySem.W PySem.Calls PyProof.Rows PySem.HandSPX
def yA (pn rn : Str) (p1 p2 p3 : Pos) : Arguments := { posonlyargs := [], args := [{ arg := "self", annotation := none, pos := p1 }, { arg := pn, annotation := none, pos := p2 }, { arg := rn, annotation := none, pos := p3 }], vararg := none, kwonlyargs := [], kw_defaults := [], kwarg := none, defaults := [] }
def yB (g pn rn : Str) (a b c d e q a1 b1 c1 d1 : Pos) : List Stmt :=
  [.Expr (.Call (.Attribute (.Call (.Name "super" a) [] [] b) "__init__" c) [.Name pn d] [] e) q, .Assign [.Attribute (.Name "self" a1) g b1] (.Name rn c1) d1]
def yS (pn rn : Str) : Scope := { kind := .function, names := [(PySem.Str.ofString "self", .local), (pn, .local), (rn, .local), (PySem.Str.ofString "__class__", .free), (PySem.Str.ofString "super", .globalImplicit)], isGenerator := false, isCoroutine := false, more := [] }
structure Word2 (pn rn : Str) : Prop where
  bnd : ∀ (q : Str) (p1 p2 p3 : Pos) (bd : List Stmt) (doc pm : Value) (an : Option Addr) (cdv ct : Value) (cc : Addr) (u v r : Value), bindArgs (ksFn "__init__" q (yA pn rn p1 p2 p3) bd (yS pn rn) .none .none doc pm an cdv ct cc) ⟨[u, v, r], []⟩ = pure [((("self" : Str)), u), (pn, v), (rn, r)]
  kS : (yS pn rn).names.lookup ("super" : Str) = some .globalImplicit
  kC : (yS pn rn).names.lookup ("__class__" : Str) = some .free
  kF : (yS pn rn).names.lookup ("self" : Str) = some .local
  kP : (yS pn rn).names.lookup pn = some .local
  kR : (yS pn rn).names.lookup rn = some .local
  dbg : (pn == ("__debug__" : Str)) = false
  dbr : (rn == ("__debug__" : Str)) = false
  ne : pn ≠ ("self" : Str)
  nr : rn ≠ ("self" : Str)
  npr : pn ≠ rn
/-- what the written part says of an error class C of two fields; its __init__ (at fI) calls that of the class above (at f1), of one field f -/
structure Txt2 (P : Program) (K : Frag) (C D1 f1 fI : Addr) (q1 q f g pn1 pn rn : Str) : Prop where
  base : Txt P K C D1 f1 q1 f pn1
  fn : ∃ (oc : Value) (od : Option Addr) (doc pm : Value) (an : Option Addr) (cda cc : Addr) (ct : Value) (osl : Array (Option Value)) (p1 p2 p3 a b c d e q' a1 b1 c1 d1 : Pos),
    (c.endLine == e.line) = true ∧ K.lookup fI = some ⟨oc, od, .func (ksFn "__init__" q (yA pn rn p1 p2 p3) (yB g pn rn a b c d e q' a1 b1 c1 d1) (yS pn rn) .none .none doc pm an (.ref cda) ct cc), osl⟩ ∧ codeIn K (.ref cda) q = true ∧
    (∃ ccl cdd vs ccs file tf, K.lookup cda = some ⟨ccl, cdd, .fields vs, ccs⟩ ∧ vs[2]? = some (.str file tf) ∧ ((P.main.file : Str) == file) = true) ∧
    (∃ cl cld csl, K.lookup cc = some ⟨cl, cld, .cell (some (.ref C)), csl⟩)
  noN : findIn K (.ref C) g = some none
  subC : mroIn K C (.ref C) = some true
  sup : ks_superIn K C C "__init__" = some (some (.ref f1))
  tf1 : typeIn K (.ref f1) = some (.type "function")
  ff1 : fnIn K f1 = true
  wd : Word2 pn rn
  nfg : f ≠ g
/-- a made error of two fields -/
structure Made2 (h h' : Heap) (e C d : Addr) (f g : Str) (v r : Value) : Prop where
  keep : ∀ b o, h.get? b = some o → h'.get? b = some o
  new : h.objs.size ≤ e
  obj : ∃ oe vs, h'.get? e = some oe ∧ oe.cls = .ref C ∧ oe.dict = some d ∧ oe.data = .fields vs ∧ vs[1]? = some .none ∧ vs[2]? = some .none
  dbig : h.objs.size ≤ d
  dne : d ≠ e
  ns : h'.Ns1 d (fun y => if y = g then some r else if y = f then some v else none)
structure InitEnd2 (h h' : Heap) (x C dx t1 : Addr) (f g : Str) (v r : Value) : Prop where
  keep : ∀ b o, b ≠ x → h.get? b = some o → h'.get? b = some o
  obj : h'.get? x = some { cls := .ref C, dict := some dx, data := .fields #[.ref t1, .none, .none, .none, .bool false, .none] }
  dbig : h.objs.size ≤ dx
  dne : dx ≠ x
  ns : h'.Ns1 dx (fun y => if y = g then some r else if y = f then some v else none)
section
variable {P : Program} {w : World} {A : Around} {E : Value → Shared → Prop} {R : Result → Shared → Prop} {s : Shared} {K : Frag} {C D1 f1 fI : Addr} {q1 q f g pn1 pn rn : Str}
theorem xinit2 (T : Txt2 P K C D1 f1 fI q1 q f g pn1 pn rn) {x t0 : Addr} {v r : Value} {mg mb : Str → Option Value} (X : K.In s.heap) (hg : s.heap.Ns mainGlobals mg) (hm : mg "super" = none) (hb : s.heap.Ns builtinsNs mb) (hmb : mb "super" = bootBuiltins "super")
    (hlim : s.heap.NoLimit) (hx : s.heap.get? x = some (excO C t0)) (hnx : K.lookup x = none) (hroom : A.depth + 1 < recursionLimit)
    (hq : ∀ h' tk dx t1, InitEnd2 s.heap h' x C dx t1 f g v r → R (.ok (.ret .none)) { s with heap := h', toks := tk }) :
    codeAny (model P w) A (.call (.ref fI) ⟨[.ref x, v, r], []⟩) R s := by
  obtain ⟨oc, od, doc, pm, an, cda, cc, ct, osl, p1, p2, p3, a, b, c, d, e, q', a1, b1, c1, d1, hpos, ho, hcd, ⟨ccl, cdd, vs, ccs, file, tf, hcode, hvs, hfile⟩, cl, cld, csl, hcell⟩ := T.fn
  obtain ⟨nm, qq, N, bs, bm, sn, sub, ab, col, dd, k0, k1, k2, k3, k5, hC, hbm⟩ := T.base.cls
  have hcl : clsIn K C = some { name := nm, bases := bs, mro := .ref C :: bm, ns := N, qualname := qq, hasDict := true, slotNames := sn, subclasses := sub, abstract := ab, collection := col, hasDel := false } := by unfold clsIn; rw [hC] <;> rfl
  have X₁ : ∀ h' : Heap, (∀ b o, s.heap.get? b = some o → h'.get? b = some o) → K.In h' := fun h' k => X.keeps k
  refine ks_codeAny_call_defAt (fd := ksFn "__init__" q (yA pn rn p1 p2 p3) (yB g pn rn a b c d e q' a1 b1 c1 d1) (yS pn rn) .none .none doc pm an (.ref cda) ct cc) (binds := [(("self" : Str), .ref x), (pn, v), (rn, r)]) (Nat.lt_of_succ_lt hroom) (X _ _ ho) rfl hlim (codeRec_of X hcd) rfl
    (BindsTo.of_eq (T.wd.bnd _ _ _ _ _ _ _ _ _ _ _ _ _ _)) ?_ ?_ (fun h₁ hns k₁ => ?_)
  · intro z hz
    simp only [yS, List.mem_cons, List.not_mem_nil, or_false] at hz
    rcases hz with rfl | rfl | rfl | rfl | rfl <;> exact fun z => by cases z
  · intro z hz
    simp only [List.mem_cons, List.not_mem_nil, or_false] at hz
    rcases hz with rfl | rfl | rfl
    · exact T.wd.kF
    · exact T.wd.kP
    · exact T.wd.kR
  have hx₁ := k₁ _ _ hx
  have X1 := X₁ h₁ k₁
  have hD1 : h₁.get? C = _ := X1 _ _ hC
  have lS : (fun y => ([("self", .ref x), (pn, v), (rn, r)] : List (Str × Value)).reverse.lookup y) "self" = some (.ref x) := by
    show List.lookup (Str.ofString "self") [(rn, r), (pn, v), (Str.ofString "self", .ref x)] = _
    simp only [List.lookup]
    rw [show (Str.ofString "self" == rn) = false from by simpa using Ne.symm T.wd.nr, show (Str.ofString "self" == pn) = false from by simpa using Ne.symm T.wd.ne]
    simp
  have lP : (fun y => ([("self", .ref x), (pn, v), (rn, r)] : List (Str × Value)).reverse.lookup y) pn = some v := by
    show List.lookup pn [(rn, r), (pn, v), (Str.ofString "self", .ref x)] = _
    simp only [List.lookup]
    rw [show (pn == rn) = false from by simpa using T.wd.npr]
    simp
  have lR : (fun y => ([("self", .ref x), (pn, v), (rn, r)] : List (Str × Value)).reverse.lookup y) rn = some r := by
    show List.lookup rn [(rn, r), (pn, v), (Str.ofString "self", .ref x)] = _
    simp [List.lookup]
  have he : ∀ env : Env, eval (.Call (.Attribute (.Call (.Name "super" a) [] [] b) "__init__" c) [.Name pn d] [] e) env = (do
      let ov ← attributeBase (.Call (.Name "super" a) [] [] b) "__init__" env (eval (.Call (.Name "super" a) [] [] b) env)
      standAt c.atName
      let (f, first) ← holding [ov] (getMethod ov "__init__" (do return (← importBound (.Call (.Name "super" a) [] [] b) env).getD true))
      callWith e f first (backTo e (starEach [.Name pn d] env)) []) := fun env => by
    rw [eval]
    unfold methodCall calleeOf methodCallPos
    rw [hpos]
    rfl
  refine ks_wpAt_execs_cons (ks_wpAt_Expr_any (ks_wpAt_MethodCall ?_ (he _)))
  refine ks_wpAt_super_base (env := ksEnv q (yS pn rn) s.heap.objs.size fI (.ref cda) cc) T.wd.kS T.wd.kC (by decide) rfl (X1 _ _ ho) rfl rfl rfl (X1 _ _ hcode) rfl hvs hfile T.base.top ?_
  refine ks_loadName_global rfl T.wd.kS (loadGlobal_builtin (env := ksEnv q (yS pn rn) s.heap.objs.size fI (.ref cda) cc) (hg.keeps k₁) hm (hb.keeps k₁) (hmb.trans (by first | boot_by_name | rfl | kernel_rfl)) ⟨rfl, ?_⟩)
  refine wpAny_loadName_free rfl T.wd.kC rfl ⟨_, X1 _ _ hcell, rfl⟩ ?_
  refine wpAny_loadName_local rfl T.wd.kF hns lS ?_
  refine ks_wpAny_isType_cls hD1 rfl ⟨rfl, ?_⟩
  have xd : ∀ cc, (excO C t0).data ≠ .cls cc := fun cc z => by cases z
  refine ks_wpAny_call_super hD1 rfl hx₁ rfl xd (looks_mroIn X1 T.subC) (fun h₂ e₂ k₂ => ?_)
  have X2 : K.In h₂ := X1.keeps k₂
  have hx₂ := k₂ _ _ hx₁
  have hal : alongIn K "__init__" (((.ref C :: bm : List Value).dropWhile (· != .ref C)).drop 1) = some (some (.ref f1)) := by
    have z := T.sup
    unfold ks_superIn at z
    rw [hcl] at z
    exact z
  have I2 : InstAt h₂ x (excO C t0) C none := ⟨hx₂, rfl, rfl, trivial⟩
  obtain ⟨of, hof, hofc⟩ : ∃ of, h₂.get? f1 = some of ∧ of.cls = .type "function" := by
    have ht' : (K.lookup f1).map (·.cls) = some (.type "function") := T.tf1
    cases z : K.lookup f1 with
    | none => rw [z] at ht'; cases ht'
    | some of => rw [z] at ht'; exact ⟨of, X2 _ _ z, Option.some.inj ht'⟩
  refine ks_wpAny_getMethod_super e₂ (looks_opaque X2 T.base.opq) (l₀ := .ref C :: bm) ?_ rfl X2 hal hof hofc (ks_ne X2 I2 hcl) (by decide) ?_
  · exact fun A Q E s k q => wpAny_bind ((looks_clsIn X2 hcl) A _ E s k (wpAny_pure q))
  have k₃ : ∀ b o, h₂.get? b = some o → (h₂.push (methodObj (.ref f1) (.ref x))).get? b = some o := fun b o z => Heap.get?_push_of_some _ z
  have hmo : (h₂.push (methodObj (.ref f1) (.ref x))).get? h₂.objs.size = some (methodObj (.ref f1) (.ref x)) := Heap.get?_push_at rfl rfl
  have kk : ∀ b o, s.heap.get? b = some o → (h₂.push (methodObj (.ref f1) (.ref x))).get? b = some o := fun b o z => k₃ _ _ (k₂ _ _ (k₁ _ _ z))
  have X3 : K.In (h₂.push (methodObj (.ref f1) (.ref x))) := X₁ _ kk
  have ns3 := (hns.keeps k₂).keeps k₃
  refine callWith_of rfl (keeps_M (K := K) (q := h₂.objs.size) (f := f1) (self := .ref x) T.ff1) (evalArgs_plain (spliced_cons (wpAny_Name (wpAny_loadName_local rfl T.wd.kP ns3 lP (spliced_nil ?_)) T.wd.dbg)))
  refine ⟨⟨hmo, X3⟩, ?_⟩
  refine wpAny_call (method_call hmo (xinit (s := ⟨h₂.push (methodObj (.ref f1) (.ref x)), _, _, _, _⟩) (v := v) T.base X3 (hg.keeps kk) hm (hb.keeps kk) hmb (hlim.keeps kk) (kk _ _ hx) hnx ?_ fun h4 tk4 dx t4 ⟨k4, hx4, dn4, dne4, ns4⟩ => ?_))
  · show A.depth + 1 < recursionLimit
    exact hroom
  have nL : s.heap.objs.size ≠ x := Nat.ne_of_gt (Heap.lt_size hx)
  have X4 : K.In h4 := fun b o z => k4 b o (fun e => by rw [e, hnx] at z; cases z) (X3 b o z)
  have ns5 : h4.Ns s.heap.objs.size _ := ns3.at fun o z => k4 _ o nL z
  show wpAt _ _ _ _ _ _ _
  refine ks_wpAt_execs_cons (wpAt_of_wpAny (plainObj_wpAny_Assign_Attribute ?_))
  refine wpAny_Name (wpAny_loadName_local rfl T.wd.kR ns5 lR ?_) T.wd.dbr
  refine wpAny_Name (wpAny_loadName_local rfl T.wd.kF ns5 lS ?_) (by decide)
  obtain ⟨oD, esD, epD, hoD, hdD, _⟩ := ns4.count (ns := [f]) (fun y hy => by
    by_cases z : y = f
    · rw [z]; exact List.mem_singleton.mpr rfl
    · rw [if_neg z] at hy; exact absurd rfl hy)
  refine set_plain X4 (ox := _) (od := some oD) ⟨hx4, rfl, rfl, hoD⟩ T.base.sa ?_
  refine PySem.OEX.osa_old X4 hx4 ns4 (nl := [f]) (fun y hy => ?_) (Nat.le_of_lt (by show 1 < 1000; decide)) hcl (show refsVE (.ref C :: bm) = true from hbm) rfl T.noN (fun h5 tk5 k5' ns6 => ?_)
  · by_cases z : y = f
    · rw [z]; exact List.mem_singleton.mpr rfl
    · rw [if_neg z] at hy; exact absurd rfl hy
  refine wpAt_of_wpAny (wpAny_execs_nil (hq h5 tk5 dx t4 ⟨fun b o hb z => k5' b o ?_ (k4 b o hb (kk b o z)), k5' x _ (Ne.symm dne4) hx4, ?_, dne4, ns6⟩))
  · have lt := Heap.lt_size z
    have l2 := ns3.lt
    have l3 : (h₂.push (methodObj (.ref f1) (.ref x))).objs.size ≤ dx := dn4
    exact Nat.ne_of_lt (Nat.lt_of_lt_of_le (Nat.lt_trans lt l2) l3)
  · exact Nat.le_trans (Nat.le_of_lt ns3.lt) dn4
theorem xmade2 (T : Txt2 P K C D1 f1 fI q1 q f g pn1 pn rn) (iC : findIn K (.ref C) "__init__" = some (some (.ref fI))) (tC : typeIn K (.ref fI) = some (.type "function")) {v r : Value} {mg mb : Str → Option Value} (X : K.In s.heap)
    (hg : s.heap.Ns mainGlobals mg) (hm : mg "super" = none) (hb : s.heap.Ns builtinsNs mb) (hmb : mb "super" = bootBuiltins "super") (hlim : s.heap.NoLimit) (hroom : A.depth + 2 < recursionLimit)
    (hq : ∀ h' tk e d, Made2 s.heap h' e C d f g v r → R (.ok (.ret (.ref e))) { s with heap := h', toks := tk }) :
    codeAny (model P w) A (.call (.ref C) ⟨[v, r], []⟩) R s := by
  obtain ⟨nm, qq, N, bs, bm, sn, sub, ab, col, dd, k0, k1, k2, k3, k5, hC, hbm⟩ := T.base.cls
  obtain ⟨hp, gg, dr, tk, os⟩ := s
  have k : ∀ b o, hp.get? b = some o → ((hp.push (kdv_tup [v, r])).push (excO C hp.objs.size)).get? b = some o := fun b o e => Heap.get?_push_of_some _ (Heap.get?_push_of_some _ e)
  have hget : ((hp.push (kdv_tup [v, r])).push (excO C hp.objs.size)).get? (hp.objs.size + 1) = some (excO C hp.objs.size) := by heap_get
  have hnx : K.lookup (hp.objs.size + 1) = none := by
    cases e : K.lookup (hp.objs.size + 1) with
    | none => rfl
    | some o =>
      have z : hp.get? (hp.objs.size + 1) = some o := X _ _ e
      exact absurd (Nat.lt_of_succ_lt (Heap.lt_size z)) (Nat.lt_irrefl _)
  have two : [v, r].length ≤ sizeLine := by
    rw [sizeLine_eq]
    exact (by decide : 2 ≤ 16777216)
  refine call_own F.excBase_ValueError (fun X => refsVE_contains X bm hbm) (X _ _ hC) (looks_findIn X iC) (fun self => bind_fn X self tC) two ?_
  refine xinit2 (s := ⟨(hp.push (kdv_tup [v, r])).push (excO C hp.objs.size), gg, dr, tk, os⟩) T (X.keeps k) (hg.keeps k) hm (hb.keeps k) hmb (hlim.keeps k) hget hnx ?_ fun h' tk' dx t1 ⟨k', hx, dn, dne, hns⟩ => ?_
  · show A.depth + 1 + 1 < recursionLimit
    exact hroom
  · have old : ∀ b o, hp.get? b = some o → h'.get? b = some o := fun b o e => k' b o (Nat.ne_of_lt (Nat.lt_succ_of_lt (Heap.lt_size e))) (k b o e)
    have z : hp.objs.size + 1 + 1 ≤ dx := by
      have q := dn
      rw [Heap.size_push, Heap.size_push] at q
      exact q
    exact ⟨rfl, hq h' tk' (hp.objs.size + 1) dx ⟨old, Nat.le_succ _, ⟨_, _, hx, rfl, rfl, rfl, rfl, rfl⟩, Nat.le_trans (Nat.le_trans (Nat.le_succ _) (Nat.le_succ _)) z, dne, hns⟩⟩
end
end OwnX
end PySem
namespace L2
open PySem PySem.Spec PyProof.Rows
theorem relO_two {v r : V} {v' r' : Value} (rv : RelV v v') (rr : RelV r r') {f g : Str} (hn : f ≠ g) (y : Str) : RelO (List.lookup y [(f, v), (g, r)]) (if y = g then some r' else if y = f then some v' else none) := by
  by_cases hg : y = g
  · subst hg
    rw [if_pos rfl]
    have q : List.lookup y [(f, v), (y, r)] = some r := by
      have : (y == f) = false := by simpa using Ne.symm hn
      simp [List.lookup, this]
    rw [q]
    exact rr
  · rw [if_neg hg]
    by_cases hf : y = f
    · subst hf
      rw [if_pos rfl]
      have q : List.lookup y [(y, v), (g, r)] = some v := by simp [List.lookup]
      rw [q]
      exact rv
    · rw [if_neg hf]
      have q1 : (y == f) = false := by simpa using hf
      have q2 : (y == g) = false := by simpa using hg
      have q : List.lookup y [(f, v), (g, r)] = none := by simp [List.lookup, q1, q2]
      rw [q]
      trivial
/-- an error class of two fields -/
structure XCls2 (P : Program) (K : PySem.W.Frag) (mg : Str → Option Value) (nm : Str) (C : Addr) (f g : Str) : Prop where
  gC : mg nm = some (.ref C)
  how : ∃ D1 f1 fI q1 q pn1 pn rn, PySem.OwnX.Txt2 P K C D1 f1 fI q1 q f g pn1 pn rn ∧ PySem.W.findIn K (.ref C) "__init__" = some (some (.ref fI)) ∧ PySem.W.typeIn K (.ref fI) = some (.type "function")
  kC : PySem.W.keepIn K (.ref C) = true
  exC : PySem.W.subIn K (.ref C) (.type "BaseException") = some true
  tyC : PySem.W.typeIn K (.ref C) = some (.type "type")
  ga : PySem.W.findIn K (.ref C) "__getattribute__" = some (some (.builtin "BaseException.__getattribute__"))
  gg : PySem.W.findIn K (.ref C) "__getattr__" = some none
  hdC : PySem.W.hasDictIn K C = true
  sup : mg "super" = none
section
variable {X : Cx} {C : Addr} {nm f g : Str}
/-- E(e1, e2) -/
def tMkX2 (C : Addr) (f g : Str) (ta : TA) : St → Hp → XK → Prop := fun σ H Q => ta σ H fun vs H1 => ∃ v r, vs = [v, r] ∧ ∀ d, H1 d = none → Q (.ref C) (some d) (upd H1 d (.xd [(f, v), (g, r)]))
theorem pmk_x2 {a b : Expr} {ta : TA} {p pos : Pos} {k : Nat} (T : XCls2 X.prog X.K X.mg nm C f g) (hr : Room k X.A) (ha : PA X [a, b] ta) (hg : Gl X nm := by rfl)
    (hd : (nm == ("__debug__" : Str)) = false := by decide)
    (he : starEach (a :: [b]) X.env = (false, eval a X.env) :: starEach [b] X.env := by rfl) (hpl : (backTo pos (starEach [b] X.env)).any (·.1) = false := by rfl) :
    L2N.PMk X (.Call (.Name nm p) [a, b] [] pos) (tMkX2 C f g ta) := by
  intro pins s σ H Q I h
  obtain ⟨D1, f1, fI, q1, q, pn1, pn, rn, TT, iC, tC⟩ := T.how
  refine wpAny_Call_Name_kw (ld_glob I hg T.gC ?_ hd)
  refine PySem.W.callWith_K (h₀ := X.base) I.ok.mod.kin T.kC (thn (ha.run pos pins s σ H _ I h) fun us s1 hh => ?_) he hpl
  obtain ⟨vs, H1, I1, r1, v, r, ev, q1'⟩ := hh
  subst ev
  refine ⟨I1.kIn, ?_⟩
  obtain ⟨v', r', rfl, rv, rr⟩ := vals2 r1
  show wpAny _ _ (call (.ref C) [v', r']) _ _ _
  have hlim := I1.nolimit
  obtain ⟨mb, b1, b2⟩ := I1.mod.blt
  have hg1 := I1.mod.glob.keeps I1.bk
  have hb1 := b1.keeps I1.bk
  obtain ⟨hp, gg, dr, tk, os⟩ := s1
  refine wpAny_call (PySem.OwnX.xmade2 TT iC tC I1.kIn hg1 T.sup hb1 (b2 _ (by decide)) hlim (by have := hr.dp; omega) fun h' tk' e d M => ?_)
  show L2N.MkP X pins σ Q (.ref e) ⟨h', gg, dr, tk', os⟩
  obtain ⟨oe, fv, hoe, hc, hd, hdat, h1, h2⟩ := M.obj
  have hns := M.ns
  obtain ⟨G', g1, g2⟩ := restrict h' fun b => decide (b ≠ e)
  have gk : ∀ b, b ≠ e → G'.get? b = h'.get? b := fun b hb => g1 b (decide_eq_true hb)
  have ge : G'.get? e = none := g2 e (by simp)
  have old : ∀ b o, hp.get? b = some o → G'.get? b = some o := fun b o q => (gk b (Nat.ne_of_lt (Nat.lt_of_lt_of_le (Heap.lt_size q) M.new))).trans (M.keep b o q)
  have ob : ObjOk X.prog X.w (upd H1 d (.xd [(f, v), (g, r)])) G' d (.xd [(f, v), (g, r)]) :=
    ⟨_, hns.at (fun o q => (gk d M.dne).trans q), fun y => relO_two rv rr TT.nfg y⟩
  have J : Inv X pins σ (upd H1 d (.xd [(f, v), (g, r)])) ⟨G', gg, dr, tk', os⟩ := I1.laid (t' := tk') old M.dbig ob
  refine ⟨e, oe, fv, ⟨G', gg, dr, tk', os⟩, _, .ref C, some d, rfl, J, fun b o q => ?_, ge, hoe, ⟨hc, hd, fun vs e => by rw [hdat] at e; cases e; exact h2⟩, hdat, h1, ?_, rfl, I1.bare, raises_own T.exC T.tyC, q1' d (I1.hok.fresh M.dbig)⟩
  · by_cases hb : b = e
    · have q' : G'.get? b = some o := q
      rw [hb, ge] at q'; cases q'
    · exact (gk b hb).symm.trans q
  · rw [upd_ne (Ne.symm M.dne)]
    exact I1.hok.fresh M.new
def tRaiseX2 (C : Addr) (f g : Str) (W : WX) (ta : TA) : TS := fun _ σ H => tMkX2 C f g ta σ H fun cls d H' => W cls d σ H'
theorem ps_raiseX2 {a b : Expr} {ta : TA} {W : WX} {p pos pos2 : Pos} {k : Nat} (hc : X.calm = true) (T : XCls2 X.prog X.K X.mg nm C f g) (hr : Room k X.A) (tk : L2N.Takes X W) (ha : PA X [a, b] ta) (hg : Gl X nm := by rfl)
    (hd : (nm == ("__debug__" : Str)) = false := by decide)
    (he : starEach (a :: [b]) X.env = (false, eval a X.env) :: starEach [b] X.env := by rfl) (hpl : (backTo pos (starEach [b] X.env)).any (·.1) = false := by rfl) :
    PS X (.Raise (some (.Call (.Name nm p) [a, b] [] pos)) none pos2) (tRaiseX2 C f g W ta) := L2N.ps_raise hc tk (pmk_x2 T hr ha hg hd he hpl)
end
end L2

set_option Elab.async false
set_option linter.all false
set_option maxRecDepth 100000
set_option maxHeartbeats 4000000
namespace A
open PySem PySem.Spec PyProof.Rows L2
/-! ### raise -/
section
variable {X : Cx} {n : Cn} {C nm f g : Str} {a b : Expr} {t : AM (List D)} {p pos pos2 : Pos} {k : Nat}
def sRaise (C f : Str) (t : AM (List D)) : AS := sBind t fun ds De ρ S => opt (one1 ds) fun v => De.ex ⟨C, [f], [v]⟩ ρ S
theorem js_raise (hc : X.calm = true) (T : XCls X.prog X.K X.mg nm (n.c.cA C) f) (hr : Room k X.A) (tk : L2N.Takes X n.W) (ha : JA X n [a] t) (hg : Gl X nm := by rfl)
    (hd : (nm == ("__debug__" : Str)) = false := by decide)
    (he : starEach (a :: []) X.env = (false, eval a X.env) :: starEach [] X.env := by rfl) (hpl : (backTo pos (starEach [] X.env)).any (·.1) = false := by rfl) :
    JS X n (.Raise (some (.Call (.Name nm p) [a] [] pos)) none pos2) (sRaise C f t) := PS.imp (ps_raiseX hc T hr tk ha hg hd he hpl) fun De σ H h => by
  refine (upS.bind h).mono ?_
  rintro vs H1 ⟨w1, ρ, S1, D', ds, st1, r1, hf, k⟩
  obtain ⟨v, e1, q⟩ := opt_some hf
  obtain ⟨x, rfl, rx⟩ := one_rel e1 r1
  refine ⟨x, rfl, fun d hd => ?_⟩
  have s := Stp.alloc (w := w1) (N := S1.length) hd (.xd [(f, x)])
  exact k.ex w1 ρ S1 σ _ _ _ _ s (st1.step s (st1.wf.alloc hd _)) ⟨rfl, [(f, x)], upd_same, st1.wf.fresh hd, rfl, .cons (rx.stp s) .nil⟩ q
def sRaise2 (C f g : Str) (t : AM (List D)) : AS := sBind t fun ds De ρ S => opt (two2 ds) fun v => De.ex ⟨C, [f, g], [v.1, v.2]⟩ ρ S
theorem js_raise2 (hc : X.calm = true) (T : XCls2 X.prog X.K X.mg nm (n.c.cA C) f g) (hr : Room k X.A) (tk : L2N.Takes X n.W) (ha : JA X n [a, b] t) (hg : Gl X nm := by rfl)
    (hd : (nm == ("__debug__" : Str)) = false := by decide)
    (he : starEach (a :: [b]) X.env = (false, eval a X.env) :: starEach [b] X.env := by rfl) (hpl : (backTo pos (starEach [b] X.env)).any (·.1) = false := by rfl) :
    JS X n (.Raise (some (.Call (.Name nm p) [a, b] [] pos)) none pos2) (sRaise2 C f g t) := PS.imp (ps_raiseX2 hc T hr tk ha hg hd he hpl) fun De σ H h => by
  refine (upS.bind h).mono ?_
  rintro vs H1 ⟨w1, ρ, S1, D', ds, st1, r1, hf, k⟩
  obtain ⟨v, e1, q⟩ := opt_some hf
  obtain ⟨x, y, rfl, rx, ry⟩ := two_rel e1 r1
  refine ⟨x, y, rfl, fun d hd => ?_⟩
  have s := Stp.alloc (w := w1) (N := S1.length) hd (.xd [(f, x), (g, y)])
  exact k.ex w1 ρ S1 σ _ _ _ _ s (st1.step s (st1.wf.alloc hd _)) ⟨rfl, [(f, x), (g, y)], upd_same, st1.wf.fresh hd, rfl, .cons (rx.stp s) (.cons (ry.stp s) .nil)⟩ q
end
/-! ### try .. except -/
/-- a clause: its class, the slot of its name, its suite (by the held error's place and itself) -/
structure Cl where
  C : Str
  i : Option Nat
  su : Addr → Exc → AS
def hEnds (i : Option Nat) (De : EndsA) : EndsA := match i with
  | none => { De with ex := fun _ _ _ => False }
  | some i => ⟨fun ρ S => De.nx (ρ.set i none) S, De.rt, fun ρ S => De.bk (ρ.set i none) S, fun ρ S => De.ct (ρ.set i none) S, fun _ _ _ => False⟩
def hEv (i : Option Nat) (a : Addr) (ρ : Ev) : Ev := match i with
  | none => ρ
  | some i => ρ.set i (some (.adr a))
/-- the clauses, asked in order; sub: which class is below which -/
def hdl (sub : Str → Str → Bool) (x : Exc) (De : EndsA) : List Cl → Ev → Sto → Prop
  | [], ρ, S => De.ex x ρ S
  | c :: r, ρ, S => if sub x.C c.C = true then ∀ a, c.su a x (hEnds c.i De) (hEv c.i a ρ) S else hdl sub x De r ρ S
def sTry (Cs : List Str) (sub : Str → Str → Bool) (tb : AS) (cs : List Cl) : AS := fun De ρ S => tb { De with ex := fun x ρ1 S1 => x.C ∈ Cs ∧ hdl sub x De cs ρ1 S1 } ρ S
section
variable {X : Cx} {n : Cn} {body : List Stmt} {tb : AS} {h₀ : ExceptHandler} {hds : List ExceptHandler} {pos : Pos} {Cs : List Str} {sub : Str → Str → Bool}
/-- a suite's context -/
def Cn.suite (n : Cn) (x : Exc) (cls : Value) (d : Option Addr) : Cn := ⟨n.c, some (x, cls, d), fun _ _ _ _ => False⟩
def upCl (n : Cn) (c : Cl) : Addr → Value → Option Addr → TS := fun a cls d De σ H => ∃ x, upS (n.suite x cls d) (c.su a x) De σ H
inductive JH (X : Cx) (n : Cn) : List ExceptHandler → List Cl → Prop
  | done : JH X n [] []
  | bare {x : Str} {c : Cl} {b₀ : Stmt} {suite : List Stmt} {np q : Pos} {hds : List ExceptHandler} {l : List Cl} (hi : c.i = none) (hc : Names X x (.ref (n.c.cA c.C)))
      (hs : ∀ (a : Addr) (oe : Obj) (cls : Value) (d : Option Addr) (pn : List (Addr × Obj)) (e : Exc), L2N.Zn cls d oe → (∃ vs, oe.data = .fields vs) → JSs (X.suite a ((a, oe) :: pn)) (n.suite e cls d) (b₀ :: suite) (c.su a e)) (r : JH X n hds l) :
      JH X n (.ExceptHandler (some (.Name x np)) none (b₀ :: suite) q :: hds) (c :: l)
  | named {x : Str} {c : Cl} {b₀ : Stmt} {suite : List Stmt} {np q : Pos} {hds : List ExceptHandler} {l : List Cl} {m : Str} {i : Nat} (hi : c.i = some i) (hN : X.N.Nodup) (hm : X.N[i]? = some m) (hln : X.env.kindOf m = some .local) (hc : Names X x (.ref (n.c.cA c.C)))
      (hs : ∀ (a : Addr) (oe : Obj) (cls : Value) (d : Option Addr) (pn : List (Addr × Obj)) (e : Exc), L2N.Zn cls d oe → (∃ vs, oe.data = .fields vs) → JSs (X.suite a ((a, oe) :: pn)) (n.suite e cls d) (b₀ :: suite) (c.su a e)) (r : JH X n hds l) :
      JH X n (.ExceptHandler (some (.Name x np)) (some m) (b₀ :: suite) q :: hds) (c :: l)
def clTs (n : Cn) (c : Cl) : Value × (Addr → Value → Option Addr → TS) := (.ref (n.c.cA c.C), match c.i with | none => upCl n c | some i => hAs i (upCl n c))
theorem JH.hdl {cs : List Cl} (h : JH X n hds cs) : Hdl X hds (cs.map (clTs n)) := by
  induction h with
  | done => exact .done
  | @bare x c b₀ suite np q hds l hi hc hs r ih =>
    have e : clTs n c = (.ref (n.c.cA c.C), upCl n c) := by unfold clTs; rw [hi]
    rw [List.map_cons, e]
    refine .bare hc (fun a oe cls d pn hz hf => ⟨fun pins s σ H De I q => ?_⟩) ih
    obtain ⟨x, q⟩ := q
    exact (hs a oe cls d pn x hz hf).run pins s σ H De I q
  | @named x c b₀ suite np q hds l m i hi hN hm hln hc hs r ih =>
    have e : clTs n c = (.ref (n.c.cA c.C), hAs i (upCl n c)) := by unfold clTs; rw [hi]
    rw [List.map_cons, e]
    refine .named hN hm hln hc (fun a oe cls d pn hz hf => ⟨fun pins s σ H De I q => ?_⟩) ih
    obtain ⟨x, q⟩ := q
    exact (hs a oe cls d pn x hz hf).run pins s σ H De I q
theorem OkE.suite0 {w : Wd} {N : Nat} {H : Hp} {D' : EndsA} {De : Ends} (k : OkE n w N H D' De) (hg : RelG n.c w N H n.g) (x : Exc) (cls : Value) (d : Option Addr) : OkE (n.suite x cls d) w N H (hEnds none D') De :=
  ⟨fun w' ρ' S' σ' H' s st q => k.nx w' ρ' S' σ' H' s ⟨st.wf, st.ev, hg.stp s⟩ q, fun w' S' H' d v s f r q => k.rt w' S' H' d v s f r q, fun w' ρ' S' σ' H' s st q => k.bk w' ρ' S' σ' H' s ⟨st.wf, st.ev, hg.stp s⟩ q,
    fun w' ρ' S' σ' H' s st q => k.ct w' ρ' S' σ' H' s ⟨st.wf, st.ev, hg.stp s⟩ q, fun _ _ _ _ _ _ _ _ _ _ _ z => z⟩
theorem OkE.suite1 {w : Wd} {N : Nat} {H : Hp} {D' : EndsA} {De : Ends} (k : OkE n w N H D' De) (hg : RelG n.c w N H n.g) (x : Exc) (cls : Value) (d : Option Addr) (i : Nat) :
    OkE (n.suite x cls d) w N H (hEnds (some i) D') ⟨fun τ G => De.nx (τ.set i none) G, De.rt, fun τ G => De.bk (τ.set i none) G, fun τ G => De.ct (τ.set i none) G⟩ :=
  ⟨fun w' ρ' S' σ' H' s st q => k.nx w' _ S' _ H' s ⟨st.wf, st.ev.unset, hg.stp s⟩ q, fun w' S' H' d v s f r q => k.rt w' S' H' d v s f r q, fun w' ρ' S' σ' H' s st q => k.bk w' _ S' _ H' s ⟨st.wf, st.ev.unset, hg.stp s⟩ q,
    fun w' ρ' S' σ' H' s st q => k.ct w' _ S' _ H' s ⟨st.wf, st.ev.unset, hg.stp s⟩ q, fun _ _ _ _ _ _ _ _ _ _ _ z => z⟩
theorem wMany_of {De : Ends} {D' : EndsA} {w' : Wd} {ρ' : Ev} {S' : Sto} {σ' : L2.St} {H' : Hp} {x : Exc} {cls : Value} {d : Option Addr} (k' : OkE n w' S'.length H' D' De) (st' : Sta n.c n.g w' ρ' S' σ' H') (rx : RelX n.c w' S'.length H' x cls d) (hC : x.C ∈ Cs) :
    ∀ {cs : List Cl}, (∀ C ∈ Cs, ∀ c ∈ cs, PySem.W.exmOne n.c.K (.ref (n.c.cA C)) (.ref (n.c.cA c.C)) = some (sub C c.C)) → hdl sub x D' cs ρ' S' → wMany n.c.K n.W De (cs.map (clTs n)) cls d σ' H'
  | [], _, hx => k'.ex w' ρ' S' σ' H' x cls d Stp.refl st' rx hx
  | c :: cs, hsub, hx => by
    have ec : cls = .ref (n.c.cA x.C) := rx.1
    refine ⟨sub x.C c.C, by rw [ec]; exact hsub x.C hC c List.mem_cons_self, fun e a ha => ?_, fun e => wMany_of k' st' rx hC (fun C hC c hc => hsub C hC c (List.mem_cons_of_mem _ hc)) ?_⟩
    · simp only [hdl] at hx
      rw [if_pos e] at hx
      have hx := hx a
      obtain ⟨C, i, su⟩ := c
      cases i with
      | none => exact ⟨x, w', ρ', S', hEnds none D', ⟨st'.wf, st'.ev, rx⟩, hx, k'.suite0 st'.gx x cls d⟩
      | some i => exact ⟨x, w', _, S', hEnds (some i) D', ⟨st'.wf, st'.ev.set (.adr a), rx⟩, hx, k'.suite1 st'.gx x cls d i⟩
    · simp only [hdl] at hx
      rw [if_neg (by rw [e]; decide)] at hx
      exact hx
theorem js_try {cs : List Cl} (hs : X.stack = X.env :: X.outer) (hf : X.env.frame = some X.env.locals) (tk : L2N.Takes X n.W)
    (hb : ∀ (W : WX) (pn : List (Addr × Obj)) (xe : Value → Shared → Prop), L2N.Takes (X.tr pn xe) W → PassesOwn (model X.prog X.w) X.A X.env xe → JSs (X.tr pn xe) ⟨n.c, n.g, W⟩ body tb)
    (hh : JH X n (h₀ :: hds) cs) (hsub : ∀ C ∈ Cs, ∀ c ∈ cs, PySem.W.exmOne n.c.K (.ref (n.c.cA C)) (.ref (n.c.cA c.C)) = some (sub C c.C)) (hK : X.K = n.c.K := by rfl) : JS X n (.Try body (h₀ :: hds) [] [] pos) (sTry Cs sub tb cs) := by
  refine PS.imp (ps_tryN (tb := fun W => upS ⟨n.c, n.g, W⟩ tb) hs hf tk hb hh.hdl) fun De σ H h => ?_
  obtain ⟨w, ρ, S, D', st, h, k⟩ := h
  refine ⟨w, ρ, S, _, st, h, ⟨fun w' ρ' S' σ' H' => k.nx w' ρ' S' σ' H', k.rt, fun w' ρ' S' σ' H' => k.bk w' ρ' S' σ' H', fun w' ρ' S' σ' H' => k.ct w' ρ' S' σ' H', ?_⟩⟩
  rintro w' ρ' S' σ' H' x cls d s' st' rx ⟨hC, hx⟩
  rw [hK]
  exact wMany_of (k.step s') st' rx hC hsub hx
/-- e.f, e the held error -/
def aXf (a : Addr) (x : Exc) (Cs : List Str) (f : Str) (te : AM D) : AM D := fun ρ S Q E => x.C ∈ Cs ∧ aBind te (fun d => fun _ S Q _ => d = .adr a ∧ opt ((x.ns.zip x.vs).lookup f) fun v => Q v S) ρ S Q E
theorem j_xf {a : Addr} {x : Exc} {oe : Obj} {cls : Value} {d : Option Addr} {pn : List (Addr × Obj)} {e : Expr} {te : AM D} {pos : Pos} {f : Str} (T : ∀ C ∈ Cs, XfC X.K (n.c.cA C) ∧ PySem.W.findIn X.K (.ref (n.c.cA C)) f = some none)
    (hz : L2N.Zn cls d oe) (hf : ∃ vs, oe.data = .fields vs) (he : JE (X.suite a ((a, oe) :: pn)) (n.suite x cls d) e te) (hb : attributeBase e f X.env (eval e X.env) = eval e X.env := by rfl) :
    JE (X.suite a ((a, oe) :: pn)) (n.suite x cls d) (.Attribute e f pos) (aXf a x Cs f te) := by
  refine ⟨fun pins s σ H Q I h => ?_⟩
  obtain ⟨w, ρ, S, st, Q', E', ⟨hm, ht⟩, hq, he'⟩ := h
  have h : upW (n.suite x cls d).c (n.suite x cls d).W (Rel (n.suite x cls d).c) (aBind te (fun d => fun _ S Q _ => d = .adr a ∧ opt ((x.ns.zip x.vs).lookup f) fun v => Q v S)) w ρ S σ H Q := ⟨Q', E', ht, hq, he'⟩
  refine (pe_xf (X := X) (C := n.c.cA x.C) (T x.C hm).1 (T x.C hm).2 hz.zc hf he hb).run pins s σ H Q I ((upW.bind st h).mono ?_)
  rintro v H1 ⟨w1, S1, d1, st1, _, r1, h1⟩
  refine h1.op fun Q' hq hk => ?_
  obtain ⟨e1, hq⟩ := hq
  obtain ⟨y, e2, q⟩ := opt_some hq
  subst e1
  cases r1
  obtain ⟨g1, g2⟩ := st1.gx
  refine ⟨rfl, g1, ?_⟩
  cases d with
  | none =>
    rw [g2.1] at e2
    simp at e2
  | some dd =>
    obtain ⟨fs, h1, h2, h3, h4⟩ := g2
    have hl : x.ns.length = x.vs.length := by rw [h4.len, ← h3]; simp
    obtain ⟨z1, z2⟩ := zip_fst hl
    obtain ⟨u, hu, ru⟩ := (lookup_rel (fs := x.ns.zip x.vs) (f := f) (by rw [z1]; exact h3) (by rw [z2]; exact h4)).2 y e2
    exact ⟨dd, fs, u, rfl, h1, hu, hk _ _ _ _ _ Stp.refl st1.wf ru q⟩
end
/-! ### a def -/
def startD (N : List Str) (ds : List D) : Ev := ds.map some ++ List.replicate (N.length - ds.length) none
theorem relE_start {c : Cg} {w : Wd} {M : Nat} {H : Hp} {N : List Str} {ds : List D} {vs : List V} (r : RelL c w M H ds vs) : RelE c w M H (startD N ds) (L2.start N vs) := by
  refine ⟨by simp [startD, L2.start, r.len], fun i d e => ?_⟩
  unfold startD at e
  by_cases hi : i < ds.length
  · rw [List.getElem?_append_left (by simpa using hi), List.getElem?_map] at e
    cases e1 : ds[i]? with
    | none => rw [e1] at e; cases e
    | some d' =>
      rw [e1] at e
      cases e
      obtain ⟨v, h1, h2⟩ := r.get e1
      refine ⟨v, ?_, h2⟩
      unfold L2.start
      rw [List.getElem?_append_left (by rw [List.length_map, ← r.len]; exact hi), List.getElem?_map, h1]
      rfl
  · rw [List.getElem?_append_right (by simpa using hi), List.getElem?_replicate] at e
    split at e <;> cases e
def defEnds (Q : QD) (E : XQ) : EndsA := ⟨fun _ S => Q .non S, Q, fun _ _ => False, fun _ _ => False, fun x _ S => E x S⟩
/-- a def as the top has written it, with or without defaults -/
structure FunG (K : PySem.W.Frag) (x qual : Str) (st : Stmt) (f : Addr) (fd : FuncData) : Prop where
  ex : ∃ (oc : Value) (od : Option Addr) (dV kV doc pm : Value) (an : Option Addr) (cdv ct : Value) (osl : Array (Option Value)),
    fd = PySem.W.fnOf x qual (defArgs st) (defBody st) (defScope st) dV kV doc pm an cdv ct ∧ K.lookup f = some ⟨oc, od, .func fd, osl⟩ ∧ PySem.W.codeIn K cdv qual = true
  kp : PySem.W.keepIn K (.ref f) = true
theorem _root_.L2.Fun.g {K : PySem.W.Frag} {x qual : Str} {st : Stmt} {f : Addr} {fd : FuncData} (F : Fun K x qual st f fd) : FunG K x qual st f fd := by
  obtain ⟨⟨oc, od, kV, doc, pm, an, cdv, ct, osl, h⟩, kp⟩ := F
  exact ⟨⟨oc, od, _, kV, doc, pm, an, cdv, ct, osl, h⟩, kp⟩
section
variable {P : Program} {w : World} {K : PySem.W.Frag} {cA : Str → Addr} {mg : Str → Option Value} {base : Heap}
theorem def_ok {x qual : Str} {st : Stmt} {f : Addr} {fd : FuncData} {N ps : List Str} {k : Nat} {sp : ASp} {t : AS} (F : FunG K x qual st f fd) (Sc : FnScope N ps (defScope st))
    (hb : ∀ (cdv : Value) (A : Around) (outer : List Env) (s : Shared) (H : Hp) (E : XK), Room k (A.deeper (envOfC qual (defScope st) s.heap.objs.size f cdv)) →
      JSs (cxOf (L2N.CX P w) P w K mg base N qual (defScope st) f cdv A outer s H E) ⟨⟨K, cA⟩, none, fun cls d _ H => E cls d H⟩ (defBody st) t)
    (hl : ∀ ds S Q E, sp ds S Q E → ds.length = ps.length) (hv : ∀ ds S Q E, sp ds S Q E → t (defEnds Q E) (startD N ds) S) : FnOk P w K mg base (L2N.CX P w) (k + 1) f fd ps (upSp ⟨K, cA⟩ sp) := by
  obtain ⟨oc, od, dV, kV, doc, pm, an, cdv, ct, osl, rfl, lk, hcd⟩ := F.ex
  refine fn_of lk hcd Sc (fun vs H Q E h => ?_) (fun A outer s H vs Q E hr h => ?_)
  · obtain ⟨w, S, ds, Q', E', f, r, ht, _⟩ := h
    rw [← r.len]; exact hl _ _ _ _ ht
  · obtain ⟨w, S, ds, Q', E', f, r, ht, hq, he⟩ := h
    exact ⟨_, hb cdv A outer s H E hr, w, _, S, defEnds Q' E', ⟨f, relE_start r, trivial⟩, hv ds S Q' E' ht,
      ⟨fun w' ρ' S' σ' H' s' st' q => hq w' S' H' .non .non s' st'.wf .non q, hq, fun _ _ _ _ _ _ _ z => z, fun _ _ _ _ _ _ _ z => z, fun w' ρ' S' σ' H' x cls d s' st' rx q => he w' S' H' x cls d s' st'.wf rx q⟩⟩
end
end A

set_option Elab.async false
set_option linter.all false
set_option maxRecDepth 100000
set_option maxHeartbeats 4000000
namespace A
open PySem PySem.Spec PyProof.Rows L2
/-! ### constants of the module -/
/-- a written tuple of texts -/
def KTup (K : PySem.W.Frag) (a : Addr) (ss : List Str) : Prop := ∃ (o : Obj) (its : Array Value) (n : Nat), K.lookup a = some o ∧ o.cls = .type "tuple" ∧ o.data = .seq its n ∧ its.size ≤ sizeLine ∧ Vals (ss.map V.str) its.toList
theorem relL_strs {c : Cg} {w : Wd} {N : Nat} {H : Hp} : ∀ {ss : List Str}, RelL c w N H (ss.map D.str) (ss.map V.str)
  | [] => .nil
  | s :: ss => .cons (.str s) relL_strs
/-- a written dict of texts and numbers -/
def entOk (P : Params) : List DictEntry → List (Str × Int) → Prop
  | [], [] => True
  | e :: es, (k, i) :: m => (∃ t, e.key = .str k t) ∧ e.hash = PyData.keyHash P k ∧ (∃ t, e.val = .int i t) ∧ entOk P es m
  | _, _ => False
def KDc (K : PySem.W.Frag) (w : World) (a : Addr) (m : List (Str × Int)) : Prop := ∃ es n, K.lookup a = some ⟨.type "dict", none, .dict es n, #[]⟩ ∧ entOk w.params es.toList m ∧ (a == sysModules) = false
theorem entOk.lit {P : Params} : ∀ {es : List DictEntry} {m : List (Str × Int)}, entOk P es m → PySem.W.KeysLit P es
  | [], [], _ => trivial
  | e :: es, (k, i) :: m, ⟨⟨t, h1⟩, h2, _, r⟩ => ⟨⟨k, t, h1, h2⟩, r.lit⟩
  | [], _ :: _, h => h.elim
  | _ :: _, [], h => h.elim
theorem entOk.find {P : Params} {z : Str} : ∀ {es : List DictEntry} {m : List (Str × Int)}, entOk P es m → (m.lookup z = none → es.find? (fun e => Value.isStrOf z e.key) = none) ∧ ∀ i, m.lookup z = some i → ∃ e t, es.find? (fun e => Value.isStrOf z e.key) = some e ∧ e.val = .int i t
  | [], [], _ => ⟨fun _ => rfl, fun i h => by simp at h⟩
  | e :: es, (k, j) :: m, ⟨⟨t, h1⟩, _, ⟨u, h3⟩, r⟩ => by
    obtain ⟨i1, i2⟩ := r.find (z := z)
    simp only [List.lookup_cons, List.find?_cons]
    rw [h1]
    by_cases q : z = k
    · subst q
      have e1 : Value.isStrOf z (.str z t) = true := by simp [Value.isStrOf]
      rw [e1]
      simp only [beq_self_eq_true]
      exact ⟨fun z => by simp at z, fun i h => by simp at h; subst h; exact ⟨e, u, rfl, h3⟩⟩
    · have e1 : Value.isStrOf z (.str k t) = false := by simp [Value.isStrOf]; exact fun w => q (by rw [w])
      have e2 : (z == k) = false := by simpa using q
      rw [e1, e2]
      exact ⟨i1, i2⟩
  | [], _ :: _, h => h.elim
  | _ :: _, [], h => h.elim
theorem KDc.find {K : PySem.W.Frag} {w : World} {a : Addr} {m : List (Str × Int)} (h : KDc K w a m) : ∃ es n, K.lookup a = some ⟨.type "dict", none, .dict es n, #[]⟩ ∧ PySem.W.KeysLit w.params es.toList ∧ (a == sysModules) = false ∧
    ∀ z, (findBy Value.isStrOf es z).isSome = (m.lookup z).isSome ∧ ∀ i, m.lookup z = some i → ∃ t, findBy Value.isStrOf es z = some (.int i t) := by
  obtain ⟨es, n, h1, h2, h3⟩ := h
  refine ⟨es, n, h1, h2.lit, h3, fun z => ?_⟩
  obtain ⟨l⟩ := es
  obtain ⟨i1, i2⟩ := h2.find (z := z)
  unfold findBy
  rw [List.find?_toArray]
  cases e : m.lookup z with
  | none =>
    have := i1 e
    simp only at this
    rw [this]
    exact ⟨rfl, fun i h => nomatch h⟩
  | some i =>
    obtain ⟨en, t, e1, e2⟩ := i2 i e
    simp only at e1
    rw [e1]
    exact ⟨rfl, fun j h => by cases h; exact ⟨t, by simp [e2]⟩⟩
section
variable {X : Cx} {n : Cn} {x : Str} {pos : Pos} {a : Addr}
theorem j_gint {i : Int} {t : Tok} (hg : Gl X x) (hm : X.mg x = some (.int i t)) (hd : (x == ("__debug__" : Str)) = false := by decide) : JE X n (.Name x pos) (aC (.int i)) := je_of_c (pe_glob (v := .int i) hg hm ⟨_, rfl⟩ hd) fun _ _ _ => .int i
theorem j_gtup {ss : List Str} (hg : Gl X x) (hm : X.mg x = some (.ref a)) (hk : KTup n.c.K a ss) (hd : (x == ("__debug__" : Str)) = false := by decide) : JE X n (.Name x pos) (aC (.tup (ss.map D.str))) :=
  je_of_c (pe_glob (v := .ref a) hg hm rfl hd) fun _ _ _ => .tup (.inr hk) relL_strs
theorem j_gadr (hg : Gl X x) (hm : X.mg x = some (.ref a)) (hd : (x == ("__debug__" : Str)) = false := by decide) : JE X n (.Name x pos) (aC (.adr a)) := je_of_c (pe_glob (v := .ref a) hg hm rfl hd) fun _ _ _ => .adr a
theorem j_gcls {C : Str} (hg : Gl X x) (hm : X.mg x = some (.ref (n.c.cA C))) (hd : (x == ("__debug__" : Str)) = false := by decide) : JE X n (.Name x pos) (aC (.cl C)) := je_of_c (pe_glob (v := .ref (n.c.cA C)) hg hm rfl hd) fun _ _ _ => .cl C
theorem j_gty {T : String} (hg : Gl X x) (hm : X.mg x = none) (hv : bootBuiltins x = some (.type T)) (hn : x ≠ "__name__" := by decide) (hd : (x == ("__debug__" : Str)) = false := by decide) : JE X n (.Name x pos) (aC (.ty T)) :=
  je_of_c (pe_bltn (v := .ty T) hg hm hv rfl hn hd) fun _ _ _ => .ty T
def dKdIn (a : Addr) (m : List (Str × Int)) (neg : Bool) : F2 := fun d e S Q => e = .adr a ∧ opt (asS d) fun z => Q (.bl ((m.lookup z).isSome != neg)) S
def rKdIn (K : PySem.W.Frag) (w : World) (m : List (Str × Int)) (neg : Bool) : R2 := fun x y H Q => ∃ a z, y = .ref a ∧ x = .str z ∧ KDc K w a m ∧ Q (.bl ((m.lookup z).isSome != neg)) H
theorem op_kdIn {m : List (Str × Int)} : OpR X (compareOp .In) (rKdIn X.K X.w m false) := by
  intro pins s σ H x y v u Q I rx ry h
  obtain ⟨a, z, rfl, rfl, hk, q⟩ := h
  obtain ⟨es, k, h1, h2, h3, h4⟩ := hk.find
  cases (show u = Value.ref a from ry)
  obtain ⟨t, rfl⟩ := rx
  refine wpAny_in_of (strKind_is X.prog X.w z t) h3 (PySem.W.mapOf_K (prog := X.prog) (w := X.w) I.kIn h1 h2) ?_
  rw [(h4 z).1]
  rw [bxf] at q
  exact ⟨.bl _, H, I.tok _, rfl, q⟩
theorem op_kdNotIn {m : List (Str × Int)} : OpR X (compareOp .NotIn) (rKdIn X.K X.w m true) := by
  intro pins s σ H x y v u Q I rx ry h
  obtain ⟨a, z, rfl, rfl, hk, q⟩ := h
  obtain ⟨es, k, h1, h2, h3, h4⟩ := hk.find
  cases (show u = Value.ref a from ry)
  obtain ⟨t, rfl⟩ := rx
  refine wpAny_notIn_of (strKind_is X.prog X.w z t) h3 (PySem.W.mapOf_K (prog := X.prog) (w := X.w) I.kIn h1 h2) ?_
  rw [(h4 z).1]
  rw [bxt] at q
  exact ⟨.bl _, H, I.tok _, rfl, q⟩
theorem os_kdIn {c : Cg} {w : World} {m : List (Str × Int)} {neg : Bool} (hk : KDc c.K w a m) : OpS c (dKdIn a m neg) (rKdIn c.K w m neg) := by
  intro w' S H d e x y Q' Q f r1 r2 h k
  obtain ⟨rfl, h⟩ := h
  obtain ⟨z, e1, q⟩ := opt_some h
  obtain ⟨rfl, rfl⟩ := asS_rel e1 r1
  cases r2
  exact ⟨a, z, rfl, rfl, hk, fin0 f k (.bl _) q⟩
def dKdGet (a : Addr) (m : List (Str × Int)) : F2 := fun d e S Q => d = .adr a ∧ opt (asS e) fun z => opt (m.lookup z) fun i => Q (.int i) S
theorem os_kdGet {c : Cg} {w : World} {m : List (Str × Int)} (hk : KDc c.K w a m) : OpS c (dKdGet a m) (rIxD c.K w) := by
  intro w' S H d e x y Q' Q f r1 r2 h k
  obtain ⟨rfl, h⟩ := h
  obtain ⟨z, e1, h⟩ := opt_some h
  obtain ⟨i, e2, q⟩ := opt_some h
  obtain ⟨rfl, rfl⟩ := asS_rel e1 r2
  cases r1
  obtain ⟨es, k', h1, h2, h3, h4⟩ := hk.find
  obtain ⟨t, h5⟩ := (h4 z).2 i e2
  refine ⟨a, z, .int i, rfl, rfl, ⟨es, k', .int i t, h1, h2, ?_, ⟨t, rfl⟩⟩, fin0 f k (.int _) q⟩
  -- nsIn from findBy
  obtain ⟨l⟩ := es
  have q' : (fun d : DictEntry => Value.isStrOf z d.key) = fun d => d.key.isStr z := funext fun d => (PySem.W.isStr_of z d.key).symm
  unfold findBy at h5
  rw [List.find?_toArray, q'] at h5
  obtain ⟨en, e3, e4⟩ := Option.map_eq_some_iff.mp h5
  unfold PySem.W.nsIn
  rw [h1]
  simp only
  rw [e3]
  simp [e4]
end
/-! ### defs as they are called -/
section
variable {P : Program} {w : World} {K : PySem.W.Frag} {cA : Str → Addr} {mg : Str → Option Value} {base : Heap} {k : Nat} {f C : Addr} {fd : FuncData} {ps : List Str} {sp : Sp} {x m : Str}
theorem fnR_of (F : FnOk P w K mg base (L2N.CX P w) k f fd ps sp) (hb : Binds K fd ps []) : FnR P w K mg base (L2N.CX P w) k f sp := (FnOk.raw (ds := []) (dvs := []) F hb .nil).imp fun vs H Q E h => by rw [List.append_nil]; exact h
theorem fnc_of (F : FnOk P w K mg base (L2N.CX P w) k f fd ps sp) (hb : Binds K fd ps []) (hm : mg x = some (.ref f)) (hk : PySem.W.keepIn K (.ref f) = true) : Fnc P w K mg base k x sp := ⟨f, hm, hk, fnR_of F hb⟩
theorem mtd_of (F : FnOk P w K mg base (L2N.CX P w) k f fd ps sp) (hb : Binds K fd ps []) (hc : Cls K C) (hm : Meth K C m f) : Mtd P w K mg base k C m sp := ⟨f, hc, hm, fnR_of F hb⟩
theorem mkr_of (F : FnOk P w K mg base (L2N.CX P w) k f fd ps sp) (hb : Binds K fd ps []) (M : Mk K C f) (hm : mg x = some (.ref C)) : Mkr P w K mg base k x C sp := ⟨f, M, hm, fnR_of F hb⟩
theorem prp_of {p : Addr} (F : FnOk P w K mg base (L2N.CX P w) k f fd ps sp) (hb : Binds K fd ps []) (hc : Cls K C) (hp : PropOf K C m p f) : Prp P w K mg base k C m sp := ⟨p, f, hc, hp, fnR_of F hb⟩
theorem _root_.L2.Fnc.imp {sp' : Sp} (F : Fnc P w K mg base k x sp) (h : ∀ vs H Q E, sp' vs H Q E → sp vs H Q E) : Fnc P w K mg base k x sp' := let ⟨f, a, b, c⟩ := F.ex; ⟨f, a, b, c.imp h⟩
theorem _root_.L2.Fnc.mono {j : Nat} (F : Fnc P w K mg base j x sp) (h : j ≤ k) : Fnc P w K mg base k x sp := let ⟨f, a, b, c⟩ := F.ex; ⟨f, a, b, c.mono h⟩
theorem _root_.L2.Fnc.cut {c : Cg} {sp : ASp} (F : Fnc P w K mg base k x (upSp c sp)) : Fnc P w K mg base k x (upSp c (cutSp sp)) := F.imp fun vs H Q E h => cutSp_up vs H Q E h
/-- a promise that follows from another, exactly -/
theorem upSp.mono {c : Cg} {sp sp' : ASp} (h : ∀ ds S Q E, sp' ds S Q E → sp ds S Q E) (vs : List V) (H : Hp) (Q : VK) (E : XK) (q : upSp c sp' vs H Q E) : upSp c sp vs H Q E := by
  obtain ⟨w, S, ds, Q', E', f, r, ht, hq, he⟩ := q
  exact ⟨w, S, ds, Q', E', f, r, h _ _ _ _ ht, hq, he⟩
theorem _root_.L2.Fnc.weak {c : Cg} {sp sp' : ASp} (F : Fnc P w K mg base k x (upSp c sp)) (h : ∀ ds S Q E, sp' ds S Q E → sp ds S Q E) : Fnc P w K mg base k x (upSp c sp') := F.imp fun vs H Q E q => upSp.mono h vs H Q E q
end
end A

set_option Elab.async false
set_option linter.all false
set_option maxRecDepth 100000
set_option maxHeartbeats 4000000
namespace A
open PySem PySem.Spec PyProof.Rows L2
theorem u1 {k : Nat} {A : Around} (r : Room k A) : A.units + 1 < cLine := by have := r.units; omega
def three3 : List D → Option (D × D × D)
  | [a, b, c] => some (a, b, c)
  | _ => none
def four4 : List D → Option (D × D × D × D)
  | [a, b, c, d] => some (a, b, c, d)
  | _ => none
def five5 : List D → Option (D × D × D × D × D)
  | [a, b, c, d, e] => some (a, b, c, d, e)
  | _ => none
def six6 : List D → Option (D × D × D × D × D × D)
  | [a, b, c, d, e, f] => some (a, b, c, d, e, f)
  | _ => none
theorem opt_one {ds : List D} {f : D → Prop} (h : opt (one1 ds) f) : ∃ a, ds = [a] ∧ f a := by
  match ds, h with
  | [a], h => exact ⟨a, rfl, h⟩
theorem opt_two {ds : List D} {f : D × D → Prop} (h : opt (two2 ds) f) : ∃ a b, ds = [a, b] ∧ f (a, b) := by
  match ds, h with
  | [a, b], h => exact ⟨a, b, rfl, h⟩
theorem opt_three {ds : List D} {f : D × D × D → Prop} (h : opt (three3 ds) f) : ∃ a b c, ds = [a, b, c] ∧ f (a, b, c) := by
  match ds, h with
  | [a, b, c], h => exact ⟨a, b, c, rfl, h⟩
theorem opt_four {ds : List D} {f : D × D × D × D → Prop} (h : opt (four4 ds) f) : ∃ a b c d, ds = [a, b, c, d] ∧ f (a, b, c, d) := by
  match ds, h with
  | [a, b, c, d], h => exact ⟨a, b, c, d, rfl, h⟩
theorem opt_five {ds : List D} {f : D × D × D × D × D → Prop} (h : opt (five5 ds) f) : ∃ a b c d e, ds = [a, b, c, d, e] ∧ f (a, b, c, d, e) := by
  match ds, h with
  | [a, b, c, d, e], h => exact ⟨a, b, c, d, e, rfl, h⟩
theorem opt_six {ds : List D} {f : D × D × D × D × D × D → Prop} (h : opt (six6 ds) f) : ∃ a b c d e g, ds = [a, b, c, d, e, g] ∧ f (a, b, c, d, e, g) := by
  match ds, h with
  | [a, b, c, d, e, g], h => exact ⟨a, b, c, d, e, g, rfl, h⟩
theorem char_inj {a b : Char} (h : a.toNat = b.toNat) : a = b := Char.ext (UInt32.toNat_inj.mp h)
theorem map_inj' : ∀ {a b : List Char}, a.map Char.toNat = b.map Char.toNat → a = b
  | [], [], _ => rfl
  | [], _ :: _, h => by simp at h
  | _ :: _, [], h => by simp at h
  | x :: a, y :: b, h => by
    simp only [List.map_cons, List.cons.injEq] at h
    rw [char_inj h.1, map_inj' h.2]
theorem ofString_inj {a b : String} : (Str.ofString a = Str.ofString b) ↔ a = b := by
  constructor
  · intro h
    rw [Str.ofString_eq_toList, Str.ofString_eq_toList] at h
    have h1 := Str.mk.inj h
    have h2 : a.toList.map Char.toNat = b.toList.map Char.toNat := by simpa using h1
    exact String.toList_inj.mp (map_inj' h2)
  · rintro rfl; rfl
theorem ofString_beq {a b : String} : (Str.ofString a == Str.ofString b) = (a == b) := by
  rw [Bool.eq_iff_iff]
  simp [ofString_inj]
theorem v_opt_s {α : Type} (a : α) (f : α → Prop) : opt (some a) f = f a := rfl
theorem v_opt_n {α : Type} (f : α → Prop) : opt none f = False := rfl
theorem v_asI_non  : A.asI (D.non) = none := rfl
theorem v_asI_bl (b : Bool) : A.asI (D.bl b) = none := rfl
theorem v_asI_int (i : Int) : A.asI (D.int i) = some i := rfl
theorem v_asI_str (x : Str) : A.asI (D.str x) = none := rfl
theorem v_asI_tup (xs : List D) : A.asI (D.tup xs) = none := rfl
theorem v_asI_lst (xs : List D) : A.asI (D.lst xs) = none := rfl
theorem v_asI_obj (C : Str) (ns : List Str) (vs : List D) : A.asI (D.obj C ns vs) = none := rfl
theorem v_asI_ref (m : Nat) : A.asI (D.ref m) = none := rfl
theorem v_asI_ty (T : String) : A.asI (D.ty T) = none := rfl
theorem v_asI_cl (C : Str) : A.asI (D.cl C) = none := rfl
theorem v_asI_adr (a : Addr) : A.asI (D.adr a) = none := rfl
theorem v_asI_scr (ns : List Int) : A.asI (D.scr ns) = none := rfl
theorem v_asB_non  : A.asB (D.non) = none := rfl
theorem v_asB_bl (b : Bool) : A.asB (D.bl b) = some b := rfl
theorem v_asB_int (i : Int) : A.asB (D.int i) = none := rfl
theorem v_asB_str (x : Str) : A.asB (D.str x) = none := rfl
theorem v_asB_tup (xs : List D) : A.asB (D.tup xs) = none := rfl
theorem v_asB_lst (xs : List D) : A.asB (D.lst xs) = none := rfl
theorem v_asB_obj (C : Str) (ns : List Str) (vs : List D) : A.asB (D.obj C ns vs) = none := rfl
theorem v_asB_ref (m : Nat) : A.asB (D.ref m) = none := rfl
theorem v_asB_ty (T : String) : A.asB (D.ty T) = none := rfl
theorem v_asB_cl (C : Str) : A.asB (D.cl C) = none := rfl
theorem v_asB_adr (a : Addr) : A.asB (D.adr a) = none := rfl
theorem v_asB_scr (ns : List Int) : A.asB (D.scr ns) = none := rfl
theorem v_asS_non  : A.asS (D.non) = none := rfl
theorem v_asS_bl (b : Bool) : A.asS (D.bl b) = none := rfl
theorem v_asS_int (i : Int) : A.asS (D.int i) = none := rfl
theorem v_asS_str (x : Str) : A.asS (D.str x) = some x := rfl
theorem v_asS_tup (xs : List D) : A.asS (D.tup xs) = none := rfl
theorem v_asS_lst (xs : List D) : A.asS (D.lst xs) = none := rfl
theorem v_asS_obj (C : Str) (ns : List Str) (vs : List D) : A.asS (D.obj C ns vs) = none := rfl
theorem v_asS_ref (m : Nat) : A.asS (D.ref m) = none := rfl
theorem v_asS_ty (T : String) : A.asS (D.ty T) = none := rfl
theorem v_asS_cl (C : Str) : A.asS (D.cl C) = none := rfl
theorem v_asS_adr (a : Addr) : A.asS (D.adr a) = none := rfl
theorem v_asS_scr (ns : List Int) : A.asS (D.scr ns) = none := rfl
theorem v_asT_non  : A.asT (D.non) = none := rfl
theorem v_asT_bl (b : Bool) : A.asT (D.bl b) = none := rfl
theorem v_asT_int (i : Int) : A.asT (D.int i) = none := rfl
theorem v_asT_str (x : Str) : A.asT (D.str x) = none := rfl
theorem v_asT_tup (xs : List D) : A.asT (D.tup xs) = some xs := rfl
theorem v_asT_lst (xs : List D) : A.asT (D.lst xs) = none := rfl
theorem v_asT_obj (C : Str) (ns : List Str) (vs : List D) : A.asT (D.obj C ns vs) = none := rfl
theorem v_asT_ref (m : Nat) : A.asT (D.ref m) = none := rfl
theorem v_asT_ty (T : String) : A.asT (D.ty T) = none := rfl
theorem v_asT_cl (C : Str) : A.asT (D.cl C) = none := rfl
theorem v_asT_adr (a : Addr) : A.asT (D.adr a) = none := rfl
theorem v_asT_scr (ns : List Int) : A.asT (D.scr ns) = none := rfl
theorem v_asInt_non  : A.asInt (D.non) = none := rfl
theorem v_asInt_bl (b : Bool) : A.asInt (D.bl b) = some (if b then 1 else 0) := rfl
theorem v_asInt_int (i : Int) : A.asInt (D.int i) = some i := rfl
theorem v_asInt_str (x : Str) : A.asInt (D.str x) = none := rfl
theorem v_asInt_tup (xs : List D) : A.asInt (D.tup xs) = none := rfl
theorem v_asInt_lst (xs : List D) : A.asInt (D.lst xs) = none := rfl
theorem v_asInt_obj (C : Str) (ns : List Str) (vs : List D) : A.asInt (D.obj C ns vs) = none := rfl
theorem v_asInt_ref (m : Nat) : A.asInt (D.ref m) = none := rfl
theorem v_asInt_ty (T : String) : A.asInt (D.ty T) = none := rfl
theorem v_asInt_cl (C : Str) : A.asInt (D.cl C) = none := rfl
theorem v_asInt_adr (a : Addr) : A.asInt (D.adr a) = none := rfl
theorem v_asInt_scr (ns : List Int) : A.asInt (D.scr ns) = none := rfl
theorem v_asBool_non  : A.asBool (D.non) = none := rfl
theorem v_asBool_bl (b : Bool) : A.asBool (D.bl b) = some b := rfl
theorem v_asBool_int (i : Int) : A.asBool (D.int i) = some (i != 0) := rfl
theorem v_asBool_str (x : Str) : A.asBool (D.str x) = none := rfl
theorem v_asBool_tup (xs : List D) : A.asBool (D.tup xs) = none := rfl
theorem v_asBool_lst (xs : List D) : A.asBool (D.lst xs) = none := rfl
theorem v_asBool_obj (C : Str) (ns : List Str) (vs : List D) : A.asBool (D.obj C ns vs) = none := rfl
theorem v_asBool_ref (m : Nat) : A.asBool (D.ref m) = none := rfl
theorem v_asBool_ty (T : String) : A.asBool (D.ty T) = none := rfl
theorem v_asBool_cl (C : Str) : A.asBool (D.cl C) = none := rfl
theorem v_asBool_adr (a : Addr) : A.asBool (D.adr a) = none := rfl
theorem v_asBool_scr (ns : List Int) : A.asBool (D.scr ns) = none := rfl
theorem v_isNon_non  : A.isNon (D.non) = some true := rfl
theorem v_isNon_bl (b : Bool) : A.isNon (D.bl b) = some false := rfl
theorem v_isNon_int (i : Int) : A.isNon (D.int i) = some false := rfl
theorem v_isNon_str (x : Str) : A.isNon (D.str x) = some false := rfl
theorem v_isNon_tup (xs : List D) : A.isNon (D.tup xs) = some false := rfl
theorem v_isNon_lst (xs : List D) : A.isNon (D.lst xs) = some false := rfl
theorem v_isNon_obj (C : Str) (ns : List Str) (vs : List D) : A.isNon (D.obj C ns vs) = some false := rfl
theorem v_isNon_ref (m : Nat) : A.isNon (D.ref m) = some false := rfl
theorem v_isNon_ty (T : String) : A.isNon (D.ty T) = some false := rfl
theorem v_isNon_cl (C : Str) : A.isNon (D.cl C) = some false := rfl
theorem v_isNon_adr (a : Addr) : A.isNon (D.adr a) = some false := rfl
theorem v_isNon_scr (ns : List Int) : A.isNon (D.scr ns) = some false := rfl
theorem v_asTy_non  : A.asTy (D.non) = none := rfl
theorem v_asTy_bl (b : Bool) : A.asTy (D.bl b) = none := rfl
theorem v_asTy_int (i : Int) : A.asTy (D.int i) = none := rfl
theorem v_asTy_str (x : Str) : A.asTy (D.str x) = none := rfl
theorem v_asTy_tup (xs : List D) : A.asTy (D.tup xs) = none := rfl
theorem v_asTy_lst (xs : List D) : A.asTy (D.lst xs) = none := rfl
theorem v_asTy_obj (C : Str) (ns : List Str) (vs : List D) : A.asTy (D.obj C ns vs) = none := rfl
theorem v_asTy_ref (m : Nat) : A.asTy (D.ref m) = none := rfl
theorem v_asTy_ty (T : String) : A.asTy (D.ty T) = some T := rfl
theorem v_asTy_cl (C : Str) : A.asTy (D.cl C) = none := rfl
theorem v_asTy_adr (a : Addr) : A.asTy (D.adr a) = none := rfl
theorem v_asTy_scr (ns : List Int) : A.asTy (D.scr ns) = none := rfl
theorem v_refOf_non  : A.refOf (D.non) = none := rfl
theorem v_refOf_bl (b : Bool) : A.refOf (D.bl b) = none := rfl
theorem v_refOf_int (i : Int) : A.refOf (D.int i) = none := rfl
theorem v_refOf_str (x : Str) : A.refOf (D.str x) = none := rfl
theorem v_refOf_tup (xs : List D) : A.refOf (D.tup xs) = none := rfl
theorem v_refOf_lst (xs : List D) : A.refOf (D.lst xs) = none := rfl
theorem v_refOf_obj (C : Str) (ns : List Str) (vs : List D) : A.refOf (D.obj C ns vs) = none := rfl
theorem v_refOf_ref (m : Nat) : A.refOf (D.ref m) = some m := rfl
theorem v_refOf_ty (T : String) : A.refOf (D.ty T) = none := rfl
theorem v_refOf_cl (C : Str) : A.refOf (D.cl C) = none := rfl
theorem v_refOf_adr (a : Addr) : A.refOf (D.adr a) = none := rfl
theorem v_refOf_scr (ns : List Int) : A.refOf (D.scr ns) = none := rfl
theorem v_fv_non  : A.fv (D.non) = none := rfl
theorem v_fv_bl (b : Bool) : A.fv (D.bl b) = none := rfl
theorem v_fv_int (i : Int) : A.fv (D.int i) = none := rfl
theorem v_fv_str (x : Str) : A.fv (D.str x) = none := rfl
theorem v_fv_tup (xs : List D) : A.fv (D.tup xs) = some xs := rfl
theorem v_fv_lst (xs : List D) : A.fv (D.lst xs) = some xs := rfl
theorem v_fv_obj (C : Str) (ns : List Str) (vs : List D) : A.fv (D.obj C ns vs) = none := rfl
theorem v_fv_ref (m : Nat) : A.fv (D.ref m) = none := rfl
theorem v_fv_ty (T : String) : A.fv (D.ty T) = none := rfl
theorem v_fv_cl (C : Str) : A.fv (D.cl C) = none := rfl
theorem v_fv_adr (a : Addr) : A.fv (D.adr a) = none := rfl
theorem v_fv_scr (ns : List Int) : A.fv (D.scr ns) = some (ns.map D.int) := rfl
theorem v_fvL_non  : A.fvL (D.non) = none := rfl
theorem v_fvL_bl (b : Bool) : A.fvL (D.bl b) = none := rfl
theorem v_fvL_int (i : Int) : A.fvL (D.int i) = none := rfl
theorem v_fvL_str (x : Str) : A.fvL (D.str x) = none := rfl
theorem v_fvL_tup (xs : List D) : A.fvL (D.tup xs) = none := rfl
theorem v_fvL_lst (xs : List D) : A.fvL (D.lst xs) = some xs := rfl
theorem v_fvL_obj (C : Str) (ns : List Str) (vs : List D) : A.fvL (D.obj C ns vs) = none := rfl
theorem v_fvL_ref (m : Nat) : A.fvL (D.ref m) = none := rfl
theorem v_fvL_ty (T : String) : A.fvL (D.ty T) = none := rfl
theorem v_fvL_cl (C : Str) : A.fvL (D.cl C) = none := rfl
theorem v_fvL_adr (a : Addr) : A.fvL (D.adr a) = none := rfl
theorem v_fvL_scr (ns : List Int) : A.fvL (D.scr ns) = none := rfl
theorem v_lv_non (S : Sto)  : A.lv S (D.non) = none := rfl
theorem v_lv_bl (S : Sto) (b : Bool) : A.lv S (D.bl b) = none := rfl
theorem v_lv_int (S : Sto) (i : Int) : A.lv S (D.int i) = none := rfl
theorem v_lv_str (S : Sto) (x : Str) : A.lv S (D.str x) = none := rfl
theorem v_lv_tup (S : Sto) (xs : List D) : A.lv S (D.tup xs) = none := rfl
theorem v_lv_lst (S : Sto) (xs : List D) : A.lv S (D.lst xs) = some xs := rfl
theorem v_lv_obj (S : Sto) (C : Str) (ns : List Str) (vs : List D) : A.lv S (D.obj C ns vs) = none := rfl
theorem v_lv_ty (S : Sto) (T : String) : A.lv S (D.ty T) = none := rfl
theorem v_lv_cl (S : Sto) (C : Str) : A.lv S (D.cl C) = none := rfl
theorem v_lv_adr (S : Sto) (a : Addr) : A.lv S (D.adr a) = none := rfl
theorem v_lv_scr (S : Sto) (ns : List Int) : A.lv S (D.scr ns) = none := rfl
theorem v_sv_non (S : Sto)  : A.sv S (D.non) = none := rfl
theorem v_sv_bl (S : Sto) (b : Bool) : A.sv S (D.bl b) = none := rfl
theorem v_sv_int (S : Sto) (i : Int) : A.sv S (D.int i) = none := rfl
theorem v_sv_str (S : Sto) (x : Str) : A.sv S (D.str x) = none := rfl
theorem v_sv_tup (S : Sto) (xs : List D) : A.sv S (D.tup xs) = some xs := rfl
theorem v_sv_lst (S : Sto) (xs : List D) : A.sv S (D.lst xs) = some xs := rfl
theorem v_sv_obj (S : Sto) (C : Str) (ns : List Str) (vs : List D) : A.sv S (D.obj C ns vs) = none := rfl
theorem v_sv_ty (S : Sto) (T : String) : A.sv S (D.ty T) = none := rfl
theorem v_sv_cl (S : Sto) (C : Str) : A.sv S (D.cl C) = none := rfl
theorem v_sv_adr (S : Sto) (a : Addr) : A.sv S (D.adr a) = none := rfl
theorem v_sv_scr (S : Sto) (ns : List Int) : A.sv S (D.scr ns) = some (ns.map D.int) := rfl
theorem v_tyN_non (S : Sto)  : A.tyN S (D.non) = some "NoneType" := rfl
theorem v_tyN_bl (S : Sto) (b : Bool) : A.tyN S (D.bl b) = some "bool" := rfl
theorem v_tyN_int (S : Sto) (i : Int) : A.tyN S (D.int i) = some "int" := rfl
theorem v_tyN_str (S : Sto) (x : Str) : A.tyN S (D.str x) = some "str" := rfl
theorem v_tyN_tup (S : Sto) (xs : List D) : A.tyN S (D.tup xs) = some "tuple" := rfl
theorem v_tyN_lst (S : Sto) (xs : List D) : A.tyN S (D.lst xs) = some "list" := rfl
theorem v_tyN_obj (S : Sto) (C : Str) (ns : List Str) (vs : List D) : A.tyN S (D.obj C ns vs) = none := rfl
theorem v_tyN_ty (S : Sto) (T : String) : A.tyN S (D.ty T) = none := rfl
theorem v_tyN_cl (S : Sto) (C : Str) : A.tyN S (D.cl C) = none := rfl
theorem v_tyN_adr (S : Sto) (a : Addr) : A.tyN S (D.adr a) = none := rfl
theorem v_tyN_scr (S : Sto) (ns : List Int) : A.tyN S (D.scr ns) = some "list" := rfl
theorem v_rd_non (S : Sto)  : A.rd S (D.non) = D.non := rfl
theorem v_rd_bl (S : Sto) (b : Bool) : A.rd S (D.bl b) = D.bl b := rfl
theorem v_rd_int (S : Sto) (i : Int) : A.rd S (D.int i) = D.int i := rfl
theorem v_rd_str (S : Sto) (x : Str) : A.rd S (D.str x) = D.str x := rfl
theorem v_rd_tup (S : Sto) (xs : List D) : A.rd S (D.tup xs) = D.tup xs := rfl
theorem v_rd_lst (S : Sto) (xs : List D) : A.rd S (D.lst xs) = D.lst xs := rfl
theorem v_rd_obj (S : Sto) (C : Str) (ns : List Str) (vs : List D) : A.rd S (D.obj C ns vs) = D.obj C ns vs := rfl
theorem v_rd_ty (S : Sto) (T : String) : A.rd S (D.ty T) = D.ty T := rfl
theorem v_rd_cl (S : Sto) (C : Str) : A.rd S (D.cl C) = D.cl C := rfl
theorem v_rd_adr (S : Sto) (a : Addr) : A.rd S (D.adr a) = D.adr a := rfl
theorem v_rd_scr (S : Sto) (ns : List Int) : A.rd S (D.scr ns) = D.scr ns := rfl
theorem v_lv_ref (S : Sto) (m : Nat) : A.lv S (D.ref m) = lstAt S m := rfl
theorem v_sv_ref (S : Sto) (m : Nat) : A.sv S (D.ref m) = lstAt S m := rfl
theorem v_one1 (d0 : D) : A.one1 [d0] = some d0 := rfl
theorem v_two2 (d0 d1 : D) : A.two2 [d0, d1] = some (d0, d1) := rfl
theorem v_three3 (d0 d1 d2 : D) : A.three3 [d0, d1, d2] = some (d0, d1, d2) := rfl
theorem v_four4 (d0 d1 d2 d3 : D) : A.four4 [d0, d1, d2, d3] = some (d0, d1, d2, d3) := rfl
theorem v_five5 (d0 d1 d2 d3 d4 : D) : A.five5 [d0, d1, d2, d3, d4] = some (d0, d1, d2, d3, d4) := rfl
theorem v_six6 (d0 d1 d2 d3 d4 d5 : D) : A.six6 [d0, d1, d2, d3, d4, d5] = some (d0, d1, d2, d3, d4, d5) := rfl
theorem v_dEq_int_int (i : Int) (j : Int) (S : Sto) (Q : QD) : A.dEq (D.int i) (D.int j) S Q = Q (.bl (decide (i = j) != false)) S := rfl
theorem v_dEq_str_str (x : Str) (y : Str) (S : Sto) (Q : QD) : A.dEq (D.str x) (D.str y) S Q = Q (.bl (decide (x = y) != false)) S := rfl
theorem v_dEq_bl_bl (b : Bool) (c : Bool) (S : Sto) (Q : QD) : A.dEq (D.bl b) (D.bl c) S Q = Q (.bl (decide (b = c) != false)) S := rfl
theorem v_dEq_non_non   (S : Sto) (Q : QD) : A.dEq (D.non) (D.non) S Q = Q (.bl (true != false)) S := rfl
theorem v_dEq_int_non (i : Int)  (S : Sto) (Q : QD) : A.dEq (D.int i) (D.non) S Q = Q (.bl (false != false)) S := rfl
theorem v_dEq_non_int  (j : Int) (S : Sto) (Q : QD) : A.dEq (D.non) (D.int j) S Q = Q (.bl (false != false)) S := rfl
theorem v_dEq_str_non (x : Str)  (S : Sto) (Q : QD) : A.dEq (D.str x) (D.non) S Q = Q (.bl (false != false)) S := rfl
theorem v_dEq_non_str  (y : Str) (S : Sto) (Q : QD) : A.dEq (D.non) (D.str y) S Q = Q (.bl (false != false)) S := rfl
theorem v_dEq_int_str (i : Int) (y : Str) (S : Sto) (Q : QD) : A.dEq (D.int i) (D.str y) S Q = Q (.bl (false != false)) S := rfl
theorem v_dEq_str_int (x : Str) (j : Int) (S : Sto) (Q : QD) : A.dEq (D.str x) (D.int j) S Q = Q (.bl (false != false)) S := rfl
theorem v_dEq_tup (xs : List D) (e : D) (S : Sto) (Q : QD) : A.dEq (D.tup xs) e S Q = ((dat (rd S (D.tup xs)) = true ∧ dat (rd S e) = true) ∧ Q (.bl (eqD (rd S (D.tup xs)) (rd S e) != false)) S) := by cases e <;> rfl
theorem v_dEq_lst (xs : List D) (e : D) (S : Sto) (Q : QD) : A.dEq (D.lst xs) e S Q = ((dat (rd S (D.lst xs)) = true ∧ dat (rd S e) = true) ∧ Q (.bl (eqD (rd S (D.lst xs)) (rd S e) != false)) S) := by cases e <;> rfl
theorem v_dEq_ref (m : Nat) (e : D) (S : Sto) (Q : QD) : A.dEq (D.ref m) e S Q = ((dat (rd S (D.ref m)) = true ∧ dat (rd S e) = true) ∧ Q (.bl (eqD (rd S (D.ref m)) (rd S e) != false)) S) := by cases e <;> rfl
theorem v_dEq_non_tup  (ys : List D) (S : Sto) (Q : QD) : A.dEq (D.non) (D.tup ys) S Q = ((dat (rd S (D.non)) = true ∧ dat (rd S (D.tup ys)) = true) ∧ Q (.bl (eqD (rd S (D.non)) (rd S (D.tup ys)) != false)) S) := rfl
theorem v_dEq_non_lst  (ys : List D) (S : Sto) (Q : QD) : A.dEq (D.non) (D.lst ys) S Q = ((dat (rd S (D.non)) = true ∧ dat (rd S (D.lst ys)) = true) ∧ Q (.bl (eqD (rd S (D.non)) (rd S (D.lst ys)) != false)) S) := rfl
theorem v_dEq_non_ref  (k : Nat) (S : Sto) (Q : QD) : A.dEq (D.non) (D.ref k) S Q = ((dat (rd S (D.non)) = true ∧ dat (rd S (D.ref k)) = true) ∧ Q (.bl (eqD (rd S (D.non)) (rd S (D.ref k)) != false)) S) := rfl
theorem v_dEq_bl_tup (b : Bool) (ys : List D) (S : Sto) (Q : QD) : A.dEq (D.bl b) (D.tup ys) S Q = ((dat (rd S (D.bl b)) = true ∧ dat (rd S (D.tup ys)) = true) ∧ Q (.bl (eqD (rd S (D.bl b)) (rd S (D.tup ys)) != false)) S) := rfl
theorem v_dEq_bl_lst (b : Bool) (ys : List D) (S : Sto) (Q : QD) : A.dEq (D.bl b) (D.lst ys) S Q = ((dat (rd S (D.bl b)) = true ∧ dat (rd S (D.lst ys)) = true) ∧ Q (.bl (eqD (rd S (D.bl b)) (rd S (D.lst ys)) != false)) S) := rfl
theorem v_dEq_bl_ref (b : Bool) (k : Nat) (S : Sto) (Q : QD) : A.dEq (D.bl b) (D.ref k) S Q = ((dat (rd S (D.bl b)) = true ∧ dat (rd S (D.ref k)) = true) ∧ Q (.bl (eqD (rd S (D.bl b)) (rd S (D.ref k)) != false)) S) := rfl
theorem v_dEq_int_tup (i : Int) (ys : List D) (S : Sto) (Q : QD) : A.dEq (D.int i) (D.tup ys) S Q = ((dat (rd S (D.int i)) = true ∧ dat (rd S (D.tup ys)) = true) ∧ Q (.bl (eqD (rd S (D.int i)) (rd S (D.tup ys)) != false)) S) := rfl
theorem v_dEq_int_lst (i : Int) (ys : List D) (S : Sto) (Q : QD) : A.dEq (D.int i) (D.lst ys) S Q = ((dat (rd S (D.int i)) = true ∧ dat (rd S (D.lst ys)) = true) ∧ Q (.bl (eqD (rd S (D.int i)) (rd S (D.lst ys)) != false)) S) := rfl
theorem v_dEq_int_ref (i : Int) (k : Nat) (S : Sto) (Q : QD) : A.dEq (D.int i) (D.ref k) S Q = ((dat (rd S (D.int i)) = true ∧ dat (rd S (D.ref k)) = true) ∧ Q (.bl (eqD (rd S (D.int i)) (rd S (D.ref k)) != false)) S) := rfl
theorem v_dEq_str_tup (x : Str) (ys : List D) (S : Sto) (Q : QD) : A.dEq (D.str x) (D.tup ys) S Q = ((dat (rd S (D.str x)) = true ∧ dat (rd S (D.tup ys)) = true) ∧ Q (.bl (eqD (rd S (D.str x)) (rd S (D.tup ys)) != false)) S) := rfl
theorem v_dEq_str_lst (x : Str) (ys : List D) (S : Sto) (Q : QD) : A.dEq (D.str x) (D.lst ys) S Q = ((dat (rd S (D.str x)) = true ∧ dat (rd S (D.lst ys)) = true) ∧ Q (.bl (eqD (rd S (D.str x)) (rd S (D.lst ys)) != false)) S) := rfl
theorem v_dEq_str_ref (x : Str) (k : Nat) (S : Sto) (Q : QD) : A.dEq (D.str x) (D.ref k) S Q = ((dat (rd S (D.str x)) = true ∧ dat (rd S (D.ref k)) = true) ∧ Q (.bl (eqD (rd S (D.str x)) (rd S (D.ref k)) != false)) S) := rfl
theorem v_dNe_int_int (i : Int) (j : Int) (S : Sto) (Q : QD) : A.dNe (D.int i) (D.int j) S Q = Q (.bl (decide (i = j) != true)) S := rfl
theorem v_dNe_str_str (x : Str) (y : Str) (S : Sto) (Q : QD) : A.dNe (D.str x) (D.str y) S Q = Q (.bl (decide (x = y) != true)) S := rfl
theorem v_dNe_bl_bl (b : Bool) (c : Bool) (S : Sto) (Q : QD) : A.dNe (D.bl b) (D.bl c) S Q = Q (.bl (decide (b = c) != true)) S := rfl
theorem v_dNe_non_non   (S : Sto) (Q : QD) : A.dNe (D.non) (D.non) S Q = Q (.bl (true != true)) S := rfl
theorem v_dNe_int_non (i : Int)  (S : Sto) (Q : QD) : A.dNe (D.int i) (D.non) S Q = Q (.bl (false != true)) S := rfl
theorem v_dNe_non_int  (j : Int) (S : Sto) (Q : QD) : A.dNe (D.non) (D.int j) S Q = Q (.bl (false != true)) S := rfl
theorem v_dNe_str_non (x : Str)  (S : Sto) (Q : QD) : A.dNe (D.str x) (D.non) S Q = Q (.bl (false != true)) S := rfl
theorem v_dNe_non_str  (y : Str) (S : Sto) (Q : QD) : A.dNe (D.non) (D.str y) S Q = Q (.bl (false != true)) S := rfl
theorem v_dNe_int_str (i : Int) (y : Str) (S : Sto) (Q : QD) : A.dNe (D.int i) (D.str y) S Q = Q (.bl (false != true)) S := rfl
theorem v_dNe_str_int (x : Str) (j : Int) (S : Sto) (Q : QD) : A.dNe (D.str x) (D.int j) S Q = Q (.bl (false != true)) S := rfl
theorem v_dNe_tup (xs : List D) (e : D) (S : Sto) (Q : QD) : A.dNe (D.tup xs) e S Q = ((dat (rd S (D.tup xs)) = true ∧ dat (rd S e) = true) ∧ Q (.bl (eqD (rd S (D.tup xs)) (rd S e) != true)) S) := by cases e <;> rfl
theorem v_dNe_lst (xs : List D) (e : D) (S : Sto) (Q : QD) : A.dNe (D.lst xs) e S Q = ((dat (rd S (D.lst xs)) = true ∧ dat (rd S e) = true) ∧ Q (.bl (eqD (rd S (D.lst xs)) (rd S e) != true)) S) := by cases e <;> rfl
theorem v_dNe_ref (m : Nat) (e : D) (S : Sto) (Q : QD) : A.dNe (D.ref m) e S Q = ((dat (rd S (D.ref m)) = true ∧ dat (rd S e) = true) ∧ Q (.bl (eqD (rd S (D.ref m)) (rd S e) != true)) S) := by cases e <;> rfl
theorem v_dNe_non_tup  (ys : List D) (S : Sto) (Q : QD) : A.dNe (D.non) (D.tup ys) S Q = ((dat (rd S (D.non)) = true ∧ dat (rd S (D.tup ys)) = true) ∧ Q (.bl (eqD (rd S (D.non)) (rd S (D.tup ys)) != true)) S) := rfl
theorem v_dNe_non_lst  (ys : List D) (S : Sto) (Q : QD) : A.dNe (D.non) (D.lst ys) S Q = ((dat (rd S (D.non)) = true ∧ dat (rd S (D.lst ys)) = true) ∧ Q (.bl (eqD (rd S (D.non)) (rd S (D.lst ys)) != true)) S) := rfl
theorem v_dNe_non_ref  (k : Nat) (S : Sto) (Q : QD) : A.dNe (D.non) (D.ref k) S Q = ((dat (rd S (D.non)) = true ∧ dat (rd S (D.ref k)) = true) ∧ Q (.bl (eqD (rd S (D.non)) (rd S (D.ref k)) != true)) S) := rfl
theorem v_dNe_bl_tup (b : Bool) (ys : List D) (S : Sto) (Q : QD) : A.dNe (D.bl b) (D.tup ys) S Q = ((dat (rd S (D.bl b)) = true ∧ dat (rd S (D.tup ys)) = true) ∧ Q (.bl (eqD (rd S (D.bl b)) (rd S (D.tup ys)) != true)) S) := rfl
theorem v_dNe_bl_lst (b : Bool) (ys : List D) (S : Sto) (Q : QD) : A.dNe (D.bl b) (D.lst ys) S Q = ((dat (rd S (D.bl b)) = true ∧ dat (rd S (D.lst ys)) = true) ∧ Q (.bl (eqD (rd S (D.bl b)) (rd S (D.lst ys)) != true)) S) := rfl
theorem v_dNe_bl_ref (b : Bool) (k : Nat) (S : Sto) (Q : QD) : A.dNe (D.bl b) (D.ref k) S Q = ((dat (rd S (D.bl b)) = true ∧ dat (rd S (D.ref k)) = true) ∧ Q (.bl (eqD (rd S (D.bl b)) (rd S (D.ref k)) != true)) S) := rfl
theorem v_dNe_int_tup (i : Int) (ys : List D) (S : Sto) (Q : QD) : A.dNe (D.int i) (D.tup ys) S Q = ((dat (rd S (D.int i)) = true ∧ dat (rd S (D.tup ys)) = true) ∧ Q (.bl (eqD (rd S (D.int i)) (rd S (D.tup ys)) != true)) S) := rfl
theorem v_dNe_int_lst (i : Int) (ys : List D) (S : Sto) (Q : QD) : A.dNe (D.int i) (D.lst ys) S Q = ((dat (rd S (D.int i)) = true ∧ dat (rd S (D.lst ys)) = true) ∧ Q (.bl (eqD (rd S (D.int i)) (rd S (D.lst ys)) != true)) S) := rfl
theorem v_dNe_int_ref (i : Int) (k : Nat) (S : Sto) (Q : QD) : A.dNe (D.int i) (D.ref k) S Q = ((dat (rd S (D.int i)) = true ∧ dat (rd S (D.ref k)) = true) ∧ Q (.bl (eqD (rd S (D.int i)) (rd S (D.ref k)) != true)) S) := rfl
theorem v_dNe_str_tup (x : Str) (ys : List D) (S : Sto) (Q : QD) : A.dNe (D.str x) (D.tup ys) S Q = ((dat (rd S (D.str x)) = true ∧ dat (rd S (D.tup ys)) = true) ∧ Q (.bl (eqD (rd S (D.str x)) (rd S (D.tup ys)) != true)) S) := rfl
theorem v_dNe_str_lst (x : Str) (ys : List D) (S : Sto) (Q : QD) : A.dNe (D.str x) (D.lst ys) S Q = ((dat (rd S (D.str x)) = true ∧ dat (rd S (D.lst ys)) = true) ∧ Q (.bl (eqD (rd S (D.str x)) (rd S (D.lst ys)) != true)) S) := rfl
theorem v_dNe_str_ref (x : Str) (k : Nat) (S : Sto) (Q : QD) : A.dNe (D.str x) (D.ref k) S Q = ((dat (rd S (D.str x)) = true ∧ dat (rd S (D.ref k)) = true) ∧ Q (.bl (eqD (rd S (D.str x)) (rd S (D.ref k)) != true)) S) := rfl
theorem v_dAdd_int (i : Int) (e : D) (S : Sto) (Q : QD) : A.dAdd (.int i) e S Q = opt (asI e) fun j => Q (.int (i + j)) S := rfl
theorem v_dAdd_tup (xs : List D) (e : D) (S : Sto) (Q : QD) : A.dAdd (.tup xs) e S Q = opt (asT e) fun ys => xs.length + ys.length ≤ big ∧ Q (.tup (xs ++ ys)) S := rfl
theorem v_dAdd_lst (xs : List D) (e : D) (S : Sto) (Q : QD) : A.dAdd (.lst xs) e S Q = opt (lv S e) fun ys => xs.length + ys.length ≤ big ∧ Q (.lst (xs ++ ys)) S := rfl
theorem v_dAdd_ref (m : Nat) (e : D) (S : Sto) (Q : QD) : A.dAdd (.ref m) e S Q = opt (lstAt S m) fun xs => opt (lv S e) fun ys => xs.length + ys.length ≤ big ∧ Q (.lst (xs ++ ys)) S := rfl
theorem v_dMul_int (i : Int) (e : D) (S : Sto) (Q : QD) : A.dMul (.int i) e S Q = opt (asI e) fun j => mulOk i j ∧ Q (.int (i * j)) S := rfl
theorem v_dMul_lst (xs : List D) (e : D) (S : Sto) (Q : QD) : A.dMul (.lst xs) e S Q = opt (asI e) fun j => (-1000000 < j ∧ j < 1000000 ∧ xs.length * j.toNat ≤ big) ∧ Q (.lst (repD xs j)) S := rfl
theorem v_dSl_tup (xs : List D) (lo hi : Option Int) (S : Sto) (Q : QD) : A.dSl (.tup xs) lo hi S Q = Q (.tup (cutD xs lo hi)) S := rfl
theorem v_dSl_lst (xs : List D) (lo hi : Option Int) (S : Sto) (Q : QD) : A.dSl (.lst xs) lo hi S Q = Q (.lst (cutD xs lo hi)) S := rfl
theorem v_dSl_ref (m : Nat) (lo hi : Option Int) (S : Sto) (Q : QD) : A.dSl (.ref m) lo hi S Q = opt (lstAt S m) fun xs => Q (.lst (cutD xs lo hi)) S := rfl
theorem v_flt_non  : A.flt (D.non) = true := rfl
theorem v_flt_bl (b : Bool) : A.flt (D.bl b) = true := rfl
theorem v_flt_int (i : Int) : A.flt (D.int i) = true := rfl
theorem v_flt_str (x : Str) : A.flt (D.str x) = true := rfl
theorem v_flt_tup (xs : List D) : A.flt (D.tup xs) = false := rfl
theorem v_flt_lst (xs : List D) : A.flt (D.lst xs) = false := rfl
theorem v_flt_obj (C : Str) (ns : List Str) (vs : List D) : A.flt (D.obj C ns vs) = false := rfl
theorem v_flt_ref (m : Nat) : A.flt (D.ref m) = false := rfl
theorem v_flt_ty (T : String) : A.flt (D.ty T) = false := rfl
theorem v_flt_cl (C : Str) : A.flt (D.cl C) = false := rfl
theorem v_flt_adr (a : Addr) : A.flt (D.adr a) = false := rfl
theorem v_flt_scr (ns : List Int) : A.flt (D.scr ns) = false := rfl
theorem v_eqv1_non_non   : A.eqv1 (D.non) (D.non) = true := rfl
theorem v_eqv1_non_bl  (c : Bool) : A.eqv1 (D.non) (D.bl c) = false := rfl
theorem v_eqv1_non_int  (j : Int) : A.eqv1 (D.non) (D.int j) = false := rfl
theorem v_eqv1_non_str  (y : Str) : A.eqv1 (D.non) (D.str y) = false := rfl
theorem v_eqv1_bl_non (b : Bool)  : A.eqv1 (D.bl b) (D.non) = false := rfl
theorem v_eqv1_bl_bl (b : Bool) (c : Bool) : A.eqv1 (D.bl b) (D.bl c) = (b == c) := rfl
theorem v_eqv1_bl_str (b : Bool) (y : Str) : A.eqv1 (D.bl b) (D.str y) = false := rfl
theorem v_eqv1_int_non (i : Int)  : A.eqv1 (D.int i) (D.non) = false := rfl
theorem v_eqv1_int_int (i : Int) (j : Int) : A.eqv1 (D.int i) (D.int j) = (i == j) := rfl
theorem v_eqv1_int_str (i : Int) (y : Str) : A.eqv1 (D.int i) (D.str y) = false := rfl
theorem v_eqv1_str_non (x : Str)  : A.eqv1 (D.str x) (D.non) = false := rfl
theorem v_eqv1_str_bl (x : Str) (c : Bool) : A.eqv1 (D.str x) (D.bl c) = false := rfl
theorem v_eqv1_str_int (x : Str) (j : Int) : A.eqv1 (D.str x) (D.int j) = false := rfl
theorem v_eqv1_str_str (x : Str) (y : Str) : A.eqv1 (D.str x) (D.str y) = (x == y) := rfl
theorem atD {α : Type} {xs : List α} {j : Nat} {x : α} (h : xs[j]? = some x) : atI xs (j : Int) = some x := by
  have hj : j < xs.length := (List.getElem?_eq_some_iff.mp h).1
  unfold atI ixN
  rw [if_pos (Int.natCast_nonneg j), if_pos (by omega)]
  simpa using h
theorem v_at0 {α : Type} (a0 : α) (r : List α) : atI (a0 :: r) 0 = some a0 := atD (j := 0) rfl
theorem v_at1 {α : Type} (a0 a1 : α) (r : List α) : atI (a0 :: a1 :: r) 1 = some a1 := atD (j := 1) rfl
theorem v_at2 {α : Type} (a0 a1 a2 : α) (r : List α) : atI (a0 :: a1 :: a2 :: r) 2 = some a2 := atD (j := 2) rfl
theorem v_at3 {α : Type} (a0 a1 a2 a3 : α) (r : List α) : atI (a0 :: a1 :: a2 :: a3 :: r) 3 = some a3 := atD (j := 3) rfl
theorem v_at4 {α : Type} (a0 a1 a2 a3 a4 : α) (r : List α) : atI (a0 :: a1 :: a2 :: a3 :: a4 :: r) 4 = some a4 := atD (j := 4) rfl
theorem v_at5 {α : Type} (a0 a1 a2 a3 a4 a5 : α) (r : List α) : atI (a0 :: a1 :: a2 :: a3 :: a4 :: a5 :: r) 5 = some a5 := atD (j := 5) rfl
theorem v_at6 {α : Type} (a0 a1 a2 a3 a4 a5 a6 : α) (r : List α) : atI (a0 :: a1 :: a2 :: a3 :: a4 :: a5 :: a6 :: r) 6 = some a6 := atD (j := 6) rfl
theorem v_atm1 {α : Type} (xs : List α) (a : α) : atI (xs ++ [a]) (-1) = some a := by
  have e : ixN (xs ++ [a]).length (-1) = some xs.length := by
    simp [ixN]
    omega
  unfold atI
  rw [e]
  simp
theorem eqv_nil (xs : List D) : eqD (.tup xs) (.tup []) = decide (xs = []) := by
  cases xs with
  | nil => rfl
  | cons x xs => rfl
theorem v_k_int : ("int" ∈ tyKnown) = True := by simp [tyKnown]
theorem v_k_bool : ("bool" ∈ tyKnown) = True := by simp [tyKnown]
theorem v_k_str : ("str" ∈ tyKnown) = True := by simp [tyKnown]
theorem v_k_tuple : ("tuple" ∈ tyKnown) = True := by simp [tyKnown]
theorem v_k_list : ("list" ∈ tyKnown) = True := by simp [tyKnown]
theorem v_k_dict : ("dict" ∈ tyKnown) = True := by simp [tyKnown]
theorem v_big (n : Nat) (h : n ≤ 1000000 := by decide) : (n ≤ big) = True := eq_true (Nat.le_trans h (by decide))
theorem v_p10 : Int.natAbs 10 < 2 ^ 64 := by decide
theorem v_b0 : (0 ≤ big) = True := eq_true (by decide)
theorem v_b1 : (1 ≤ big) = True := eq_true (by decide)
theorem v_b2 : (2 ≤ big) = True := eq_true (by decide)
theorem v_b3 : (3 ≤ big) = True := eq_true (by decide)
theorem v_b4 : (4 ≤ big) = True := eq_true (by decide)
theorem v_b5 : (5 ≤ big) = True := eq_true (by decide)
theorem v_b6 : (6 ≤ big) = True := eq_true (by decide)
theorem v_b7 : (7 ≤ big) = True := eq_true (by decide)
theorem v_b8 : (8 ≤ big) = True := eq_true (by decide)
theorem v_b9 : (9 ≤ big) = True := eq_true (by decide)
theorem v_b10 : (10 ≤ big) = True := eq_true (by decide)
theorem v_b11 : (11 ≤ big) = True := eq_true (by decide)
theorem v_b12 : (12 ≤ big) = True := eq_true (by decide)
theorem fsn1 {fs : List D} (h : ((fs.length : Nat) : Int) + 1 = 2) : ∃ x0, fs = [x0] := by
  match fs, h with
  | [x0], _ => exact ⟨x0, rfl⟩
  | [], h => simp at h
  | _ :: _ :: r, h => simp at h; omega
theorem fsn2 {fs : List D} (h : ((fs.length : Nat) : Int) + 1 = 3) : ∃ x0 x1, fs = [x0, x1] := by
  match fs, h with
  | [x0, x1], _ => exact ⟨x0, x1, rfl⟩
  | [], h => simp at h
  | [_], h => simp at h
  | _ :: _ :: _ :: r, h => simp at h; omega
theorem fsn3 {fs : List D} (h : ((fs.length : Nat) : Int) + 1 = 4) : ∃ x0 x1 x2, fs = [x0, x1, x2] := by
  match fs, h with
  | [x0, x1, x2], _ => exact ⟨x0, x1, x2, rfl⟩
  | [], h => simp at h
  | [_], h => simp at h
  | [_, _], h => simp at h
  | _ :: _ :: _ :: _ :: r, h => simp at h; omega
theorem fsn4 {fs : List D} (h : ((fs.length : Nat) : Int) + 1 = 5) : ∃ x0 x1 x2 x3, fs = [x0, x1, x2, x3] := by
  match fs, h with
  | [x0, x1, x2, x3], _ => exact ⟨x0, x1, x2, x3, rfl⟩
  | [], h => simp at h
  | [_], h => simp at h
  | [_, _], h => simp at h
  | [_, _, _], h => simp at h
  | _ :: _ :: _ :: _ :: _ :: r, h => simp at h; omega
theorem fsn5 {fs : List D} (h : ((fs.length : Nat) : Int) + 1 = 6) : ∃ x0 x1 x2 x3 x4, fs = [x0, x1, x2, x3, x4] := by
  match fs, h with
  | [x0, x1, x2, x3, x4], _ => exact ⟨x0, x1, x2, x3, x4, rfl⟩
  | [], h => simp at h
  | [_], h => simp at h
  | [_, _], h => simp at h
  | [_, _, _], h => simp at h
  | [_, _, _, _], h => simp at h
  | _ :: _ :: _ :: _ :: _ :: _ :: r, h => simp at h; omega
theorem v_al1 {α : Type} (a0 : α) : atI [a0] (-1) = some a0 := rfl
theorem v_al2 {α : Type} (a0 a1 : α) : atI [a0, a1] (-1) = some a1 := rfl
theorem v_al3 {α : Type} (a0 a1 a2 : α) : atI [a0, a1, a2] (-1) = some a2 := rfl
theorem v_al4 {α : Type} (a0 a1 a2 a3 : α) : atI [a0, a1, a2, a3] (-1) = some a3 := rfl
theorem v_al5 {α : Type} (a0 a1 a2 a3 a4 : α) : atI [a0, a1, a2, a3, a4] (-1) = some a4 := rfl
theorem v_al6 {α : Type} (a0 a1 a2 a3 a4 a5 : α) : atI [a0, a1, a2, a3, a4, a5] (-1) = some a5 := rfl
theorem v_al7 {α : Type} (a0 a1 a2 a3 a4 a5 a6 : α) : atI [a0, a1, a2, a3, a4, a5, a6] (-1) = some a6 := rfl
theorem v_dMul_tup (xs : List D) (e : D) (S : Sto) (Q : QD) : A.dMul (.tup xs) e S Q = opt (asI e) fun j => (xs ≠ [] ∧ 2 ≤ j ∧ j ≤ 1000 ∧ xs.length ≤ 1000) ∧ Q (.tup (repD xs j)) S := rfl
theorem v_lst_push (S : Sto) (xs : List D) : lstAt (S ++ [.lst xs]) S.length = some xs := by simp [lstAt]
theorem v_ins_push (S : Sto) (C : Str) (fs : List (Str × D)) : insAt (S ++ [.ins C fs]) S.length C = some fs := by simp [insAt]
theorem v_insOf_push (S : Sto) (C : Str) (fs : List (Str × D)) : insOf (S ++ [.ins C fs]) (.ref S.length) C = some fs := by simp [insOf]
theorem v_set_push (S : Sto) (o o' : O) : (S ++ [o]).set S.length o' = S ++ [o'] := by simp
end A

set_option Elab.async false
set_option linter.all false
set_option maxRecDepth 100000
set_option maxHeartbeats 4000000
namespace A
open PySem PySem.Spec PyProof.Rows L2
/-- a loop, by what holds of the items that are left -/
theorem forX_by {g : AG} {tb : AS} {De : EndsA} (Pv : List D → Ev → Sto → Prop) (hn : ∀ ρ S, Pv [] ρ S → De.nx ρ S)
    (hc : ∀ x r ρ S, Pv (x :: r) ρ S → ∀ F : Ev → Sto → Prop, (∀ ρ' S', Pv r ρ' S' → F ρ' S') → g x ρ fun ρ1 => tb { De with nx := F, ct := F, bk := De.nx } ρ1 S) :
    ∀ {xs : List D} {ρ : Ev} {S : Sto}, Pv xs ρ S → forX g tb De xs ρ S
  | [], ρ, S, h => hn ρ S h
  | x :: r, ρ, S, h => hc x r ρ S h _ fun ρ' S' h' => forX_by Pv hn hc h'
/-- a comprehension -/
theorem lcX_by {g : AG} {tt : AM Bool} {te : AM D} {ρ : Ev} {Q : List D → Sto → Prop} (Pv : List D → List D → Sto → Prop) (hn : ∀ acc S, Pv [] acc S → Q acc S)
    (hc : ∀ x r acc S, Pv (x :: r) acc S → ∀ F : List D → Sto → Prop, (∀ acc' S', Pv r acc' S' → F acc' S') → g x ρ fun ρ2 => tt ρ2 S (fun b S3 => if b = true then te ρ2 S3 (fun y S4 => acc.length < big ∧ F (acc ++ [y]) S4) (fun _ _ => False) else F acc S3) fun _ _ => False) :
    ∀ {xs acc : List D} {S : Sto}, Pv xs acc S → lcX g tt te ρ Q xs acc S
  | [], acc, S, h => hn acc S h
  | x :: r, acc, S, h => hc x r acc S h (fun acc' S' => lcX g tt te ρ Q r acc' S') fun acc' S' h' => lcX_by Pv hn hc h'
/-- a comprehension whose items are told by a function and leave the row as it is -/
theorem lcX_map {g : AG} {tt : AM Bool} {te : AM D} {ρ : Ev} {Q : List D → Sto → Prop} {S : Sto} (p : D → Bool) (f : D → D) {xs : List D} (hl : xs.length ≤ 1000000)
    (h : ∀ x ∈ xs, ∀ (Y : D → Sto → Prop) (F : Sto → Prop), (p x = true → Y (f x) S) → (p x = false → F S) → g x ρ fun ρ2 => tt ρ2 S (fun b S3 => if b = true then te ρ2 S3 Y (fun _ _ => False) else F S3) fun _ _ => False)
    (q : Q ((xs.filter p).map f) S) : lcX g tt te ρ Q xs [] S := by
  refine lcX_by (fun r acc S' => S' = S ∧ (∀ x ∈ r, x ∈ xs) ∧ acc.length + r.length ≤ xs.length ∧ Q (acc ++ (r.filter p).map f) S) ?_ ?_ ⟨rfl, fun _ h => h, by simp, by simpa using q⟩
  · rintro acc S' ⟨rfl, _, _, q⟩
    simpa using q
  · rintro x r acc S' ⟨rfl, hm, hle, q⟩ F hF
    refine h x (hm x (by simp)) _ _ (fun hp => ⟨?_, hF _ _ ⟨rfl, fun y hy => hm y (by simp [hy]), ?_, ?_⟩⟩) (fun hp => hF _ _ ⟨rfl, fun y hy => hm y (by simp [hy]), ?_, ?_⟩)
    · have : acc.length < 1000001 := by simp at hle; omega
      exact Nat.lt_of_lt_of_le this (by decide)
    · simp at hle ⊢; omega
    · simpa [List.filter_cons, hp] using q
    · simp at hle; omega
    · simpa [List.filter_cons, hp] using q
theorem filter_all {xs : List D} : xs.filter (fun _ => true) = xs := List.filter_eq_self.mpr fun _ _ => rfl
/-- what the law's caller gives -/
def spTop (K : PySem.W.Frag) : Sp := fun vs H Q _ => ∃ (a : Addr) (ns : List Int), vs = [.ref a] ∧ Only H ∧ SqL K H a (ns.map V.int) ∧ ns.length ≤ 63 ∧ ∀ H', Q (.bl true) H'
theorem top_of {K : PySem.W.Frag} {cA : Str → Addr} {sp : ASp} (hs : ∀ (ns : List Int) (S : Sto) (Q : QD) (E : XQ), ns.length ≤ 63 → (∀ S', Q (.bl true) S') → sp [.scr ns] S Q E) {vs : List V} {H : Hp} {Q : VK} {E : XK} (h : spTop K vs H Q E) : upSp ⟨K, cA⟩ sp vs H Q E := by
  obtain ⟨a, ns, rfl, hO, hS, hl, hq⟩ := h
  refine ⟨⟨fun _ => False, fun _ => 0⟩, [], [.scr ns], fun d _ => d = .bl true, fun _ _ => False, ⟨fun n hn => by simp at hn, fun a z => z.elim, fun n m hn => by simp at hn, fun n o z => by simp at z⟩, .cons (.scr (hS.imp (fun z => ⟨z, fun y => y⟩) fun z => z)) .nil, hs ns [] _ _ hl fun _ => rfl, ?_, fun w' S' H' x cls d _ _ _ z => z.elim⟩
  rintro w' S' H' d v s f r rfl
  cases r
  exact hq H'
end A

set_option Elab.async false
set_option linter.all false
set_option maxRecDepth 100000
set_option maxHeartbeats 4000000
/-! with, whose block may raise: own managers -/
namespace A
open PySem PySem.Spec PyProof.Rows L2
section
variable {prog : Program} {w : World} {A : Around} {E : Value → Shared → Prop} {s : Shared} {env : Env} {K : PySem.W.Frag} {x C fe fx : Addr} {ox : Obj} {od : Option Obj} {pos : Pos}
/-- behind a raised error that was noted: __exit__, then on it goes -/
def ExitR (prog : Program) (w : World) (A : Around) (E : Value → Shared → Prop) (env : Env) (x fx : Addr) (Q : Flow → Shared → Prop) (e : Value) (s : Shared) : Prop :=
  wpAny (model prog w) A (typeOf e) (fun c s1 => wpAny (model prog w) A (tracebackOf e) (fun t s2 => wpAny (model prog w) A (run (.call (.ref fx) ⟨[.ref x, c, e, t], []⟩) (some e))
    (fun f s3 => f = .ret .none ∧ wpAny (model prog w) A (passOn "with" e env : Sem Flow) Q E s3) E s2) E s1) E s
theorem withX {bdy : Sem Flow} {Q : Flow → Shared → Prop} (X : K.In s.heap) (I : PySem.W.InstAt s.heap x ox C od) (he : PySem.W.findIn K (.ref C) "__enter__" = some (some (.ref fe))) (hfe : PySem.W.isFn K (.ref fe) = true)
    (hx : PySem.W.findIn K (.ref C) "__exit__" = some (some (.ref fx))) (hfx : PySem.W.isFn K (.ref fx) = true)
    (h : wpAny (model prog w) A (call (.ref fe) [.ref x]) (fun _ s2 => wpAny (model prog w) A bdy (fun f s4 => wpAny (model prog w) A (call (.ref fx) [.ref x, .none, .none, .none]) (fun _ s5 => Q f s5) E s4)
      (fun e s4 => wpAny (model prog w) A (noteFrame e env) (fun _ s5 => wpAny (model prog w) A (setFlight e none) (fun _ s6 => ExitR prog w A E env x fx Q e s6) E s5) E s4) s2) E s) :
    wpAny (model prog w) A (withItem false pos env (pure (.ref x)) none bdy) Q E s := by
  obtain ⟨cd, hcd, ae⟩ := PySem.W.kw_along he
  obtain ⟨cd', hcd', ax⟩ := PySem.W.kw_along hx
  cases hcd.symm.trans hcd'
  obtain ⟨hh, g, d, tt, os⟩ := s
  have l1 := PySem.W.kw_special (M := model prog w) X I hcd ae
  have l2 := PySem.W.kw_special (M := model prog w) X I hcd ax
  have l3 := PySem.W.bind_fn (M := model prog w) X (.ref x) (beq_iff_eq.mp hfe)
  have l4 := PySem.W.bind_fn (M := model prog w) X (.ref x) (beq_iff_eq.mp hfx)
  have l5 : PySem.W.Looks (model prog w) hh (aMethodOfAnotherBuiltinTypeStops (.ref fe) cd.mro) () := PySem.W.Looks.of_pure rfl
  have l6 : PySem.W.Looks (model prog w) hh (aMethodOfAnotherBuiltinTypeStops (.ref fx) cd.mro) () := PySem.W.Looks.of_pure rfl
  unfold withItem
  refine wpAny_bind (wpAny_pure (wpAny_bind (wpAny_standAt ?_)))
  simp only [Bool.false_eq_true, if_false]
  kw_lk
  refine wpAny_mono h (fun v s2 h2 => ?_) fun _ _ z => z
  kw_lk
  refine wpAny_attempt (PySem.W.kw_held ?_)
  show wpAny _ _ bdy _ _ _
  refine wpAny_mono h2 (fun f s4 h4 => ?_) fun e s4 h4 => ?_
  · kw_lk
    refine wpAny_mono h4 (fun _ s5 h5 => ?_) fun _ _ z => z
    kw_lk
    exact h5
  · refine wpAny_bind (wpAny_mono h4 (fun _ s5 h5 => wpAny_bind (wpAny_mono h5 (fun _ s6 h6 => ?_) fun _ _ z => z)) fun _ _ z => z)
    refine wpAny_bind (wpAny_standAt (wpAny_holding ?_))
    refine wpAny_bind (wpAny_mono h6 (fun c s7 h7 => wpAny_bind (wpAny_mono h7 (fun t s8 h8 => ?_) fun _ _ z => z)) fun _ _ z => z)
    refine wpAny_bind ?_
    unfold withItem.marked
    refine wpAny_bind (wpAny_mono h8 (fun f s9 h9 => ?_) fun _ _ z => z)
    obtain ⟨rfl, h9⟩ := h9
    refine wpAny_pure (wpAny_bind (wpAny_pure (wpAny_bind (wpAny_pure ?_))))
    simp only [Bool.false_eq_true, if_false]
    exact h9
end
/-! ### defs that may be called while an error is handled -/
section
variable {P : Program} {w : World} {K : PySem.W.Frag} {mg : Str → Option Value} {base : Heap} {cA : Str → Addr}
/-- the body's context: nothing is said of a handled error -/
abbrev cxU (P : Program) (w : World) (K : PySem.W.Frag) (mg : Str → Option Value) (base : Heap) (N : List Str) (qual : Str) (scope : Scope) (f : Addr) (cd : Value) (A : Around) (outer : List Env) (s : Shared) (H : Hp) (E : XK) : Cx :=
  { cxOf (L2N.CX P w) P w K mg base N qual scope f cd A outer s H E with calm := false }
def FnU (P : Program) (w : World) (K : PySem.W.Frag) (mg : Str → Option Value) (base : Heap) (k : Nat) (f : Addr) (sp : Sp) : Prop :=
  ∀ (A : Around) (outer : List Env) (s : Shared) (H : Hp) (us : List Value) (vs : List V) (Q : VK) (E : XK), L2H.RoomH k A → Env0 P w K mg base A outer s H → Vals vs us → sp vs H Q E →
    codeAny (model P w) A (.call (.ref f) ⟨us, []⟩) (CR (L2N.CX P w) outer P w H s Q E) s
theorem FnU.fnR {k : Nat} {f : Addr} {sp : Sp} (F : FnU P w K mg base k f sp) : FnR P w K mg base (L2N.CX P w) k f sp := fun A outer s H us vs Q E hr => F A outer s H us vs Q E (L2H.roomH_of hr)
/-- a state that fits a calm context fits the other one -/
theorem inv_U {N : List Str} {qual : Str} {scope : Scope} {f : Addr} {cd : Value} {A A' : Around} {outer : List Env} {s s1 : Shared} {H H1 : Hp} {E : XK} {pins : List (Addr × Obj)} {σ : L2.St} (fr : A.frames = some outer)
    (I : Inv (cxOf (L2N.CX P w) P w K mg base N qual scope f cd A' outer s H E) pins σ H1 s1) : Inv (cxU P w K mg base N qual scope f cd A outer s H E) pins σ H1 s1 := by
  have o := I.ok
  exact ⟨{ mod := o.mod, kind := o.kind, glob := o.glob, blt := o.blt, above := o.above, inj := o.inj, has := o.has, cab := o.cab, hd := fun z => (nomatch z), frames := Around.frames_deeper fr, stk := o.stk, exf := o.exf, bs := o.bs, bsz := o.bsz, noex := o.noex, exfs := o.exfs, funs := o.funs, frf := o.frf },
    I.os, I.bare, I.base, I.loc, I.cell, I.free, I.freeC, I.pin, I.hok, I.len⟩
theorem fnU_of {x qual : Str} {st : Stmt} {f : Addr} {fd : FuncData} {N ps : List Str} {k : Nat} {sp : Sp} (F : FunG K x qual st f fd) (Sc : FnScope N ps (defScope st)) (hb : Binds K fd ps []) (len : ∀ vs H Q E, sp vs H Q E → vs.length = ps.length)
    (hbody : ∀ (cdv : Value) (A : Around) (outer : List Env) (s : Shared) (H : Hp) (vs : List V) (Q : VK) (E : XK), L2H.RoomH k (A.deeper (envOfC qual (defScope st) s.heap.objs.size f cdv)) → sp vs H Q E →
      ∃ t, PSs (cxU P w K mg base N qual (defScope st) f cdv A outer s H E) (defBody st) t ∧ t { nx := fun _ H' => Q .non H', rt := Q } (L2.start N vs) H) : FnU P w K mg base (k + 1) f sp := by
  obtain ⟨oc, od, dV, kV, doc, pm, an, cdv, ct, osl, rfl, lk, hcd⟩ := F.ex
  intro A outer s H us vs Q E hr e0 rv hsp
  have vl : vs.length = ps.length := len _ _ _ _ hsp
  have kin := e0.mod.kin.keeps fun b o e => (e0.bs b o e).1
  have nol := e0.mod.nolimit.keeps fun b o e => (e0.bs b o e).1
  have bt := hb s us kin (by rw [List.append_nil, ← rv.length]; exact vl)
  rw [List.append_nil] at bt
  refine codeAny_call_function hr.depth (kin _ _ lk) rfl Sc.co Sc.gen rfl
    (PySem.W.codeRec_of kin hcd) (bt _ _ _ _ (wpAny_newFunctionEnv_cells Sc.kind ?_ ?_))
  · rintro ⟨n, v⟩ hy
    exact (Sc.par n (List.of_mem_zip hy).1).imp id fun q =>
      ⟨q, PySem.W.cellsFrom_some _ _ _ (.inl q)⟩
  · intro env he s1 ic
    subst he
    obtain ⟨t, ht, hq⟩ := hbody cdv A outer s H vs Q E (hr.deeper _) hsp
    have e1 : Env0 P w K mg base { A with handled := none } outer s H := ⟨e0.frames, e0.mod, e0.bs, e0.bsz, e0.funs, e0.frf, e0.hok, e0.bare⟩
    have I := inv_U e0.frames (inv_start (CX := L2N.CX P w) (E := E) (f := f) (cd := cdv) (qual := qual) Sc (show ({ A with handled := none } : Around).handled = none from rfl) e1 vl rv ic)
    refine ⟨nol.keeps ic.toInCall.keep, codeAny_func (wpAny_mono (ht.run [] s1 (L2.start N vs) H _ I hq) ?_ fun _ _ z => z)⟩
    intro fl s' hs
    rcases fl with _ | _ | _ | u
    · obtain ⟨σ', H', J, q⟩ := hs
      exact ⟨V.non, H', J.os, J.bare, J.base, J.hok, rfl, q⟩
    · exact hs.elim fun _ ⟨_, _, q⟩ => q.elim
    · exact hs.elim fun _ ⟨_, _, q⟩ => q.elim
    · obtain ⟨v, σ', H', J, rv', q⟩ := hs
      exact ⟨v, H', J.os, J.bare, J.base, J.hok, rv', q⟩
theorem defU_ok {x qual : Str} {st : Stmt} {f : Addr} {fd : FuncData} {N ps : List Str} {k : Nat} {sp : ASp} {t : AS} (F : FunG K x qual st f fd) (Sc : FnScope N ps (defScope st)) (hB : Binds K fd ps [])
    (hb : ∀ (cdv : Value) (A : Around) (outer : List Env) (s : Shared) (H : Hp) (E : XK), L2H.RoomH k (A.deeper (envOfC qual (defScope st) s.heap.objs.size f cdv)) →
      JSs (cxU P w K mg base N qual (defScope st) f cdv A outer s H E) ⟨⟨K, cA⟩, none, fun cls d _ H => E cls d H⟩ (defBody st) t)
    (hl : ∀ ds S Q E, sp ds S Q E → ds.length = ps.length) (hv : ∀ ds S Q E, sp ds S Q E → t (defEnds Q E) (startD N ds) S) : FnU P w K mg base (k + 1) f (upSp ⟨K, cA⟩ sp) := by
  refine fnU_of F Sc hB (fun vs H Q E h => ?_) (fun cdv A outer s H vs Q E hr h => ?_)
  · obtain ⟨w, S, ds, Q', E', f, r, ht, _⟩ := h
    rw [← r.len]; exact hl _ _ _ _ ht
  · obtain ⟨w, S, ds, Q', E', f, r, ht, hq, he⟩ := h
    exact ⟨_, hb cdv A outer s H E hr, w, _, S, defEnds Q' E', ⟨f, relE_start r, trivial⟩, hv ds S Q' E' ht,
      ⟨fun w' ρ' S' σ' H' s' st' q => hq w' S' H' .non .non s' st'.wf .non q, hq, fun _ _ _ _ _ _ _ z => z, fun _ _ _ _ _ _ _ z => z, fun w' ρ' S' σ' H' x cls d s' st' rx q => he w' S' H' x cls d s' st'.wf rx q⟩⟩
end
end A

set_option Elab.async false
set_option linter.all false
set_option maxRecDepth 100000
set_option maxHeartbeats 4000000
/-! with, whose block may raise: the rule -/
namespace A
open PySem PySem.Spec PyProof.Rows L2
def nev : XK := fun _ _ _ => False
/-- the manager class at C: what its __enter__ and __exit__ promise -/
structure Mgr (P : Program) (w : World) (K : PySem.W.Frag) (mg : Str → Option Value) (base : Heap) (k : Nat) (C : Addr) (spE spX : Sp) : Prop where
  ex : ∃ fe fx, PySem.W.findIn K (.ref C) "__enter__" = some (some (.ref fe)) ∧ PySem.W.isFn K (.ref fe) = true ∧ PySem.W.findIn K (.ref C) "__exit__" = some (some (.ref fx)) ∧ PySem.W.isFn K (.ref fx) = true ∧
    FnR P w K mg base (L2N.CX P w) k fe spE ∧ FnU P w K mg base k fx spX
/-- the ends of the block: __exit__ first -/
def dExit (x : V) (spX : Sp) (D : Ends) : Ends :=
  ⟨fun σ H => spX [x, .non, .non, .non] H (fun _ H' => D.nx σ H') nev, fun v H => spX [x, .non, .non, .non] H (fun _ H' => D.rt v H') nev,
   fun σ H => spX [x, .non, .non, .non] H (fun _ H' => D.bk σ H') nev, fun σ H => spX [x, .non, .non, .non] H (fun _ H' => D.ct σ H') nev⟩
def wExit (x : V) (spX : Sp) (Wo : WX) : WX := fun cls d σ H => ∃ c, cls = .ref c ∧ ∀ (e : Addr) (t : V), (t = .non ∨ ∃ T, t = .ref T) → spX [x, .ref c, .ref e, t] H (fun v H' => v = .non ∧ Wo cls d σ H') nev
def tWithX (C : Addr) (spE spX : Sp) (Wo : WX) (te : TE) (tb : WX → TS) : TS := fun D σ H => te σ H fun x H1 => ∃ a dx fs, x = .ref a ∧ H1 a = some (.ins C dx fs) ∧ spE [x] H1 (fun _ H2 => tb (wExit x spX Wo) (dExit x spX D) σ H2) nev
section
variable {X : Cx} {C x fx : Addr} {spE spX : Sp} {Wo : WX} {k : Nat} {pins : List (Addr × Obj)}
theorem noX {outer : List Env} {H : Hp} {s s' : Shared} {P : Program} {w : World} {e : Value} (h : L2N.CX P w outer H s nev e s') : False := by
  obtain ⟨_, _, _, _, _, _, _, _, _, _, _, _, z⟩ := h
  exact z
theorem roomM {A : Around} {h : Option Value} (r : L2H.RoomH k A) : L2H.RoomH k (A.mark h) := ⟨r.dp, r.un⟩
/-- the call of __exit__ behind a calm block -/
theorem exit_calm {σ : L2.St} {H : Hp} {s : Shared} {Q : V → Hp → Prop} {G : Value → Shared → Prop} (Fx : FnU X.prog X.w X.K X.mg X.base k fx spX) (hr : L2H.RoomH k X.A) (I : Inv X pins σ H s)
    (h : spX [.ref x, .non, .non, .non] H Q nev) (hG : ∀ v u H' s', Inv X pins σ H' s' → RelV v u → Q v H' → G u s') :
    wpAny (model X.prog X.w) X.A (call (.ref fx) [.ref x, .none, .none, .none]) G X.xe s := by
  refine wpAny_call (codeAny_mono (Fx X.A X.stack s H _ [.ref x, .non, .non, .non] Q nev hr I.env0 (.cons rfl (.cons rfl (.cons rfl (.cons rfl .nil)))) h) fun r s' hq => ?_)
  rcases r with e | fl
  · exact (noX hq).elim
  · rcases fl with _ | _ | _ | u
    · exact hq.elim
    · exact hq.elim
    · exact hq.elim
    · obtain ⟨v, H', J, rv, q⟩ := I.after hq
      exact hG v u H' s' J rv q
theorem exit_exc {D : Ends} {u : Value} {s' : Shared} {xe0 : Value → Shared → Prop} (hs : X.stack = X.env :: X.outer) (hf : X.env.frame = some X.env.locals) (hex : X.ex = []) (ok : X.Ok) (tk : L2N.Takes X Wo)
    (Fx : FnU X.prog X.w X.K X.mg X.base k fx spX) (hr : L2H.RoomH k X.A) (xx : L2N.XE (X.tr (X.pn ++ pins) xe0) (wExit (.ref x) spX Wo) u s') :
    wpAny (model X.prog X.w) X.A (noteFrame u X.env) (fun _ s5 => wpAny (model X.prog X.w) X.A (setFlight u none) (fun _ s6 => ExitR X.prog X.w X.A X.xe X.env x fx (SP X pins D) u s6) X.xe s5) X.xe s' := by
  have hfr : X.A.frames = some (X.env :: X.outer) := by
    rw [ok.frames, hs]
  obtain ⟨a, B, sI, pins', σ1, H1, cls, d, eu, J', nb, up, sky, na, os, ag, hw⟩ := xx
  subst eu
  have J : Inv X pins σ1 H1 sI := J'.ofTry ok
  have skyE : Sky B (X.env :: X.outer) a (L2N.Zn cls d) X.env.locals s'.heap := hs ▸ sky
  refine L2N.Sky.land L2N.Zn.steady hfr hf skyE fun h3 fl3 up3 => ?_
  have J3 : Inv X pins σ1 H1 { s' with heap := h3 } := J.landed nb fl3.1 (up.trans up3) os ag
  obtain ⟨k1, k2, k3, oe, vs, T, oT, ts, eA, hz, hd, hv1, hnT, hTe, eT, hdT, ht3⟩ := id fl3
  have nT : H1 T = none := (J.inGround nb).gone hnT
  have noFrame : ∀ (b : Addr) (o : Obj) (fv : Array Value), h3.get? b = some o → o.data = .fields fv → b ∉ frs (X.env :: X.outer) := by
    intro b o fv e dd hm
    obtain ⟨_, o2, e2, hnf⟩ := k3.mem hm
    cases Option.some.inj (e.symm.trans e2)
    exact hnf _ dd
  have inL : X.env.locals ∈ frs (X.env :: X.outer) :=
    List.mem_filterMap.mpr ⟨X.env, List.mem_cons_self, hf⟩
  have inF : ∀ b, b ∈ X.fs → b ∈ frs (X.env :: X.outer) := by
    intro b hm
    obtain ⟨e, he, q⟩ := List.mem_filterMap.mp hm
    exact List.mem_filterMap.mpr ⟨e, List.mem_cons_of_mem _ he, q⟩
  have fA := noFrame a oe vs eA hd
  have fT := noFrame T oT ts eT hdT
  have pinOf : ∀ (b : Addr) (o : Obj) (fv : Array Value), h3.get? b = some o → o.data = .fields fv → H1 b = none → b ∉ frs (X.env :: X.outer) → h3.get? b = some o ∧ H1 b = none ∧ b ≠ X.env.locals ∧ b ∉ X.fs ∧ ∀ v, o.data ≠ .cell v := by
    intro b o fv e dd hn nf
    refine ⟨e, hn, fun z => nf (z ▸ inL), fun z => nf (inF b z), fun v z => ?_⟩
    rw [dd] at z
    cases z
  have S3 : Inv (X.suite a ((a, oe) :: (T, oT) :: (X.pn ++ pins))) [] σ1 H1 { s' with heap := h3 } := by
    refine ⟨J3.ok.suite _ _, J3.os, J3.bare, J3.base, J3.loc, J3.cell, J3.free, J3.freeC, fun p hp => ?_, J3.hok, J3.len⟩
    simp only [List.append_nil, List.mem_cons] at hp
    rcases hp with rfl | rfl | hp
    · exact pinOf a oe vs eA hd na fA
    · exact pinOf T oT ts eT hdT nT fT
    · exact J3.pin p hp
  obtain ⟨c, rfl, hw⟩ := hw
  unfold ExitR
  refine wpAny_typeOf_ref eA ?_
  rw [hz.1]
  -- what the traceback is told as
  have tbk : ∀ {G : Value → Shared → Prop}, (∀ (t : V) (u : Value), (t = .non ∨ ∃ T, t = .ref T) → RelV t u → G u { s' with heap := h3 }) → wpAny (model X.prog X.w) X.A (tracebackOf (.ref a)) G X.xe { s' with heap := h3 } := by
    intro G hG
    unfold tracebackOf
    refine wpAny_bind (wpAny_field eA hd hv1 ?_)
    have l1 : 1 < ts.size := Nat.lt_of_succ_lt (Nat.lt_of_succ_lt (Array.getElem?_eq_some_iff.mp ht3).1)
    have e1 : ts[1]? = some ts[1] := Array.getElem?_eq_some_iff.mpr ⟨l1, rfl⟩
    dsimp only
    refine wpAny_bind (wpAny_field eT hdT e1 ?_)
    split
    · exact wpAny_pure (hG .non .none (.inl rfl) rfl)
    · exact wpAny_pure (hG (.ref T) (.ref T) (.inr ⟨T, rfl⟩) rfl)
  refine tbk fun t u ht rt => ?_
  refine wpAny_run (codeAny_mono (Fx (X.A.mark (some (.ref a))) X.stack _ H1 [.ref x, .ref c, .ref a, u] [.ref x, .ref c, .ref a, t] _ nev (roomM hr) S3.env0 (.cons rfl (.cons rfl (.cons rfl (.cons rt .nil)))) (hw a t ht)) fun r s6 hq => ?_)
    (fun z => ref_ne_byPass a (Option.some.inj z))
  rcases r with e | fl
  · exact (noX hq).elim
  rcases fl with _ | _ | _ | u6
  · exact hq.elim
  · exact hq.elim
  · exact hq.elim
  obtain ⟨v6, H6, S6, rv6, ev6, q6⟩ := S3.after hq
  subst ev6
  obtain rfl : u6 = Value.none := rv6
  refine ⟨rfl, ?_⟩
  have J6 : Inv X pins σ1 H6 s6 := by
    refine ⟨ok, S6.os, S6.bare, S6.base, S6.loc, S6.cell, S6.free, S6.freeC, fun p hp => ?_, S6.hok, S6.len⟩
    exact S6.pin p (List.mem_append_left _ (List.mem_cons_of_mem _ (List.mem_cons_of_mem _ hp)))
  have pA := S6.pin (a, oe) (by simp)
  have pT := S6.pin (T, oT) (by simp)
  have far : ∀ b o, sI.heap.get? b = some o → b ≠ a ∧ b ≠ T := by
    intro b o e
    by_cases hb : b ∈ frs X.stack
    · rw [hs] at hb
      exact ⟨fun z => fA (z ▸ hb), fun z => fT (z ▸ hb)⟩
    · have q := nb b o e hb
      refine ⟨fun z => ?_, fun z => ?_⟩
      · rw [z, k2] at q; cases q
      · rw [z, hnT] at q; cases q
  obtain ⟨G, g1, g2⟩ := restrict s6.heap fun b => !(decide (b = a) || decide (b = T))
  have gIn : ∀ b o, G.get? b = some o → s6.heap.get? b = some o ∧ b ≠ a ∧ b ≠ T := by
    intro b o e
    by_cases z1 : b = a
    · rw [g2 b (by simp [z1])] at e; cases e
    · by_cases z2 : b = T
      · rw [g2 b (by simp [z2])] at e; cases e
      · rw [g1 b (by simp [z1, z2])] at e
        exact ⟨e, z1, z2⟩
  have gOf : ∀ b o, b ≠ a → b ≠ T → s6.heap.get? b = some o → G.get? b = some o := by
    intro b o n1 n2 e
    rw [g1 b (by simp [n1, n2]), e]
  have I6 : Inv X pins σ1 H6 { s6 with heap := G } := by
    refine J6.less (fun b o e => (gIn b o e).1) gOf ⟨oe, vs, pA.1, hd⟩ ⟨oT, ts, pT.1, hdT⟩ pA.2.1 pT.2.1 (fun b o e => ?_) (fun p hp => far p.1 p.2 (J.pin p hp).1)
    obtain ⟨o2, q⟩ := J.base.there b o e (by rw [hex]; simp)
    exact far b o2 q
  have none6 : ∀ b, (b = a ∨ b = T) → (PySem.W.hideAll G (frs X.stack)).get? b = none := by
    intro b hb
    cases q : (PySem.W.hideAll G (frs X.stack)).get? b with
    | none => rfl
    | some o =>
      have := gIn b o (PySem.W.of_hideAll _ q)
      exact (hb.elim this.2.1 this.2.2).elim
  have ff := funFrames_none (B := PySem.W.hideAll G (frs X.stack)) J6.stack fun b hb => PySem.W.hideAll_none _ hb
  have fl6 : HandSPX.FlyingZ (PySem.W.hideAll G (frs X.stack)) (X.env :: X.outer) a (L2N.Zn (.ref c) d) s6.heap :=
    ⟨fun b o e => (gIn b o (PySem.W.of_hideAll _ e)).1, none6 a (.inl rfl), hs ▸ ff, oe, vs, T, oT, ts, pA.1, hz, hd, hv1, none6 T (.inr rfl), hTe, pT.1, hdT, ht3⟩
  unfold PySem.passOn
  refine wpAny_bind (wpAny_field pA.1 hd hv1 ?_)
  rw [if_neg (show ¬ (Value.ref T == Value.none) = true by simp)]
  have goOn : wpAny (model X.prog X.w) X.A (setFlight (.ref a) X.env.frame) (fun _ s7 => wpAny (model X.prog X.w) X.A (throw (.ref a) : Sem Flow) (SP X pins D) X.xe s7) X.xe s6 := by
    rw [hf]
    refine HandSPX.setFlight_upZ fl6 fun h7 hh7 up7 => wpAny_throw (tk _ _ ⟨a, PySem.W.hideAll G (frs X.stack), { s6 with heap := G }, pins, σ1, H6, .ref c, d, rfl, I6, fun b o e hb => PySem.W.hideAll_get _ e hb, ?_, .inr (.inr (hs.symm ▸ hh7)), pA.2.1, rfl, J6.bare, q6⟩)
    exact Heap.UpToSlots.trans (Heap.UpToSlots.of_keeps fun b o e => (gIn b o e).1) up7
  first
    | exact wpAny_bind goOn
    | exact wpAny_bind (wpAny_pure (wpAny_bind goOn))
theorem ps_withX {ctx : Expr} {body : List Stmt} {te : TE} {tb : WX → TS} {pos : Pos} (hs : X.stack = X.env :: X.outer) (hf : X.env.frame = some X.env.locals) (hex : X.ex = []) (tk : L2N.Takes X Wo)
    (M : Mgr X.prog X.w X.K X.mg X.base k C spE spX) (hr : Room k X.A) (he : PE X ctx te)
    (hb : ∀ (W : WX) (pn : List (Addr × Obj)) (xe : Value → Shared → Prop), L2N.Takes (X.tr pn xe) W → PassesOwn (model X.prog X.w) X.A X.env xe → PSs (X.tr pn xe) body (tb W)) :
    PS X (.With [⟨ctx, none⟩] body pos) (tWithX C spE spX Wo te tb) := by
  refine ⟨fun pins s σ H D I h => ?_⟩
  have ok := I.ok
  obtain ⟨fe, fx, e1, e2, e3, e4, Fe, Fx⟩ := M.ex
  refine PySem.W.kw_exec0 (thn (he.run pins s σ H _ I h) fun u s1 ⟨v, H1, I1, rv, a, dx, fs, ev, ea, q⟩ => ?_)
  subst ev
  obtain rfl : u = Value.ref a := rv
  unfold PySem.W.KwIn
  obtain ⟨mA, O, _⟩ := ins_get I1.hok ea
  obtain ⟨od, J, _⟩ := O.look
  refine withX I1.kIn J e1 e2 e3 e4 ?_
  refine wpAny_call (codeAny_mono (Fe X.A X.stack s1 H1 [.ref a] [.ref a] _ nev hr I1.env0 (.cons rfl .nil) q) fun r s2 hq => ?_)
  rcases r with e | fl
  · exact (noX hq).elim
  rcases fl with _ | _ | _ | u2
  · exact hq.elim
  · exact hq.elim
  · exact hq.elim
  obtain ⟨v2, H2, I2, _, q2⟩ := I1.after hq
  refine wpAny_mono ((hb (wExit (.ref a) spX Wo) (X.pn ++ pins) (fun e s4 => wpAny (model X.prog X.w) X.A (noteFrame e X.env) (fun _ s5 => wpAny (model X.prog X.w) X.A (setFlight e none)
      (fun _ s6 => ExitR X.prog X.w X.A X.xe X.env a fx (SP X pins D) e s6) X.xe s5) X.xe s4) (fun u s' xx => exit_exc hs hf hex ok tk Fx (L2H.roomH_of hr) xx) PassesOwn.looking).run [] s2 σ H2 (dExit (.ref a) spX D) (I2.toTry _) q2) (fun f s4 hsp => ?_) fun _ _ z => z
  cases f with
  | next =>
    obtain ⟨σ', H', J', q⟩ := hsp
    exact exit_calm Fx (L2H.roomH_of hr) (J'.ofTry ok) q fun v u H'' s' K' _ z => ⟨σ', H'', K', z⟩
  | brk =>
    obtain ⟨σ', H', J', q⟩ := hsp
    exact exit_calm Fx (L2H.roomH_of hr) (J'.ofTry ok) q fun v u H'' s' K' _ z => ⟨σ', H'', K', z⟩
  | cont =>
    obtain ⟨σ', H', J', q⟩ := hsp
    exact exit_calm Fx (L2H.roomH_of hr) (J'.ofTry ok) q fun v u H'' s' K' _ z => ⟨σ', H'', K', z⟩
  | ret u =>
    obtain ⟨v, σ', H', J', r, q⟩ := hsp
    exact exit_calm Fx (L2H.roomH_of hr) (J'.ofTry ok) q fun _ _ H'' s' K' _ z => ⟨v, σ', H'', K', r, z⟩
end
/-! the same over trees -/
section
variable {X : Cx} {n : Cn} {C : Str} {spE spX : ASp} {k : Nat}
/-- with e: the block's ends pass __exit__ -/
def xEnds (d : D) (spX : ASp) (De : EndsA) : EndsA :=
  ⟨fun ρ S => spX [d, .non, .non, .non] S (fun _ S' => De.nx ρ S') (fun _ _ => False), fun v S => spX [d, .non, .non, .non] S (fun _ S' => De.rt v S') (fun _ _ => False),
   fun ρ S => spX [d, .non, .non, .non] S (fun _ S' => De.bk ρ S') (fun _ _ => False), fun ρ S => spX [d, .non, .non, .non] S (fun _ S' => De.ct ρ S') (fun _ _ => False),
   fun x ρ S => ∀ (e : Addr) (t : D), (t = .non ∨ ∃ T, t = .adr T) → spX [d, .cl x.C, .adr e, t] S (fun v S' => v = .non ∧ De.ex x ρ S') (fun _ _ => False)⟩
def sWith (C : Str) (spE spX : ASp) (te : AM D) (tb : AS) : AS := sBind te fun d De ρ S => opt (insOf S d C) fun _ => spE [d] S (fun _ S' => tb (xEnds d spX De) ρ S') (fun _ _ => False)
theorem js_with {ctx : Expr} {body : List Stmt} {te : AM D} {tb : AS} {pos : Pos} (hs : X.stack = X.env :: X.outer) (hf : X.env.frame = some X.env.locals) (hex : X.ex = []) (tk : L2N.Takes X n.W)
    (M : Mgr X.prog X.w X.K X.mg X.base k (n.c.cA C) (upSp n.c spE) (upSp n.c spX)) {r : Nat} (hr : Room r X.A) (hk : k ≤ r) (he : JE X n ctx te)
    (hb : ∀ (W : WX) (pn : List (Addr × Obj)) (xe : Value → Shared → Prop), L2N.Takes (X.tr pn xe) W → PassesOwn (model X.prog X.w) X.A X.env xe → JSs (X.tr pn xe) ⟨n.c, n.g, W⟩ body tb) :
    JS X n (.With [⟨ctx, none⟩] body pos) (sWith C spE spX te tb) := by
  refine PS.imp (ps_withX hs hf hex tk M (hr.mono hk) he hb) fun De σ H h => ?_
  obtain ⟨w, ρ, S, D', st, h, kk⟩ := h
  refine up.mono (sW.bind (r := Rel n.c) st h kk) fun v H1 z => ?_
  obtain ⟨w1, S1, d, st1, s1, rd, h, kk⟩ := z
  obtain ⟨fs, ei, h⟩ := opt_some h
  obtain ⟨a, dx, fs', rfl, ea, _, _⟩ := insOf_rel st1.wf ei rd
  refine ⟨a, dx, fs', rfl, ea, w1, S1, [d], _, _, st1.wf, .cons rd .nil, h, fun w2 S2 H2 d2 v2 s2 f2 _ h2 => ?_, fun _ _ _ _ _ _ _ _ _ z => z.elim⟩
  have st2 := st1.step s2 f2
  have rd2 := rd.stp s2
  refine ⟨w2, ρ, S2, _, st2, h2, ⟨?_, ?_, ?_, ?_, ?_⟩⟩
  · intro w' ρ' S' σ' H' s' st' q
    exact ⟨w', S', [d, .non, .non, .non], _, _, st'.wf, .cons (rd2.stp s') (.cons .non (.cons .non (.cons .non .nil))), q, fun w3 S3 H3 d3 v3 s3 f3 _ q3 => kk.nx w3 ρ' S3 σ' H3 ((s2.trans s').trans s3) (st'.step s3 f3) q3, fun _ _ _ _ _ _ _ _ _ z => z.elim⟩
  · intro w' S' H' d' v' s' f' r' q
    exact ⟨w', S', [d, .non, .non, .non], _, _, f', .cons (rd2.stp s') (.cons .non (.cons .non (.cons .non .nil))), q, fun w3 S3 H3 d3 v3 s3 f3 _ q3 => kk.rt w3 S3 H3 d' v' ((s2.trans s').trans s3) f3 (r'.stp s3) q3, fun _ _ _ _ _ _ _ _ _ z => z.elim⟩
  · intro w' ρ' S' σ' H' s' st' q
    exact ⟨w', S', [d, .non, .non, .non], _, _, st'.wf, .cons (rd2.stp s') (.cons .non (.cons .non (.cons .non .nil))), q, fun w3 S3 H3 d3 v3 s3 f3 _ q3 => kk.bk w3 ρ' S3 σ' H3 ((s2.trans s').trans s3) (st'.step s3 f3) q3, fun _ _ _ _ _ _ _ _ _ z => z.elim⟩
  · intro w' ρ' S' σ' H' s' st' q
    exact ⟨w', S', [d, .non, .non, .non], _, _, st'.wf, .cons (rd2.stp s') (.cons .non (.cons .non (.cons .non .nil))), q, fun w3 S3 H3 d3 v3 s3 f3 _ q3 => kk.ct w3 ρ' S3 σ' H3 ((s2.trans s').trans s3) (st'.step s3 f3) q3, fun _ _ _ _ _ _ _ _ _ z => z.elim⟩
  · intro w' ρ' S' σ' H' x cls dd s' st' rx q
    refine ⟨_, rx.1, fun e t ht => ?_⟩
    have go : ∀ td : D, (td = .non ∨ ∃ T, td = .adr T) → Rel n.c w' S'.length H' td t → upSp n.c spX [.ref a, .ref (n.c.cA x.C), .ref e, t] H' (fun v H' => v = .non ∧ n.W cls dd σ' H') nev := fun td htd rt =>
      ⟨w', S', [d, .cl x.C, .adr e, td], _, _, st'.wf, .cons (rd2.stp s') (.cons (.cl _) (.cons (.adr _) (.cons rt .nil))), q e td htd, fun w3 S3 H3 d3 v3 s3 f3 r3 q3 => by
        obtain ⟨rfl, q3⟩ := q3
        cases r3
        exact ⟨rfl, kk.ex w3 ρ' S3 σ' H3 x cls dd ((s2.trans s').trans s3) (st'.step s3 f3) (rx.stp s3) q3⟩, fun _ _ _ _ _ _ _ _ _ z => z.elim⟩
    rcases ht with rfl | ⟨T, rfl⟩
    · exact go .non (.inl rfl) .non
    · exact go (.adr T) (.inr ⟨T, rfl⟩) (.adr T)
end
end A

set_option Elab.async false
set_option linter.all false
set_option maxRecDepth 100000
set_option maxHeartbeats 4000000
/-! instances called, len of own, keywords of methods, isinstance of own classes, dict displays -/
namespace A
open PySem PySem.Spec PyProof.Rows L2
theorem nev_passes {X : Cx} : Passes (L2N.CX X.prog X.w) X nev := fun _ _ _ _ _ _ _ h => (noX h).elim
/-! ### f(e, ..), f an instance -/
structure Clb (P : Program) (w : World) (K : PySem.W.Frag) (mg : Str → Option Value) (base : Heap) (k : Nat) (C : Addr) (sp : Sp) : Prop where
  ex : ∃ g, StX.CallO K C g ∧ FnR P w K mg base (L2N.CX P w) k g sp
def aCallO (C : Str) (sp : ASp) (tf : AM D) (t : AM (List D)) : AM D := aBind tf fun d => fun ρ S Q E => opt (insOf S d C) fun _ => aBind t (fun ds => fun _ S Q _ => opt (insOf S d C) fun _ => sp (d :: ds) S Q fun _ _ => False) ρ S Q E
section
variable {X : Cx} {n : Cn} {k r : Nat} {sp : ASp} {C : Str} {fe e o : Expr} {es : List Expr} {tf ta : AM D} {t tk : AM (List D)} {pos apos : Pos} {m : Str}
theorem j_callO (c : Clb X.prog X.w X.K X.mg X.base k (n.c.cA C) (upSp n.c sp)) (hr : Room r X.A) (hk : k ≤ r) (hf : JE X n fe tf) (ha : JA X n (e :: es) t)
    (ht : eval (.Call fe (e :: es) [] pos) X.env = (do callWith pos (← eval fe X.env) [] (backTo pos (starEach (e :: es) X.env)) (backToKw pos (keywordEach [] X.env))) := by rfl)
    (he : starEach (e :: es) X.env = (false, eval e X.env) :: starEach es X.env := by rfl) (hpl : (backTo pos (starEach es X.env)).any (·.1) = false := by rfl) : JE X n (.Call fe (e :: es) [] pos) (aCallO C sp tf t) := by
  obtain ⟨g, co, F⟩ := c.ex
  refine PE.imp (StX.pe_callO hf co F (hr.mono hk) nev_passes ha ht he hpl) fun σ H Q ⟨w, ρ, S, st, h⟩ => ?_
  refine (upW.bind st h).mono ?_
  rintro v H1 ⟨w1, S1, d, st1, s1, r1, Q', E', h1, hq, he⟩
  obtain ⟨fs, ei, h1⟩ := opt_some h1
  obtain ⟨a, dx, fs', rfl, ea, _, _⟩ := insOf_rel st1.wf ei r1
  refine ⟨a, rfl, ?_⟩
  have h1 : upW n.c n.W (Rel n.c) (aBind t (fun ds => fun _ S Q _ => opt (insOf S d C) fun _ => sp (d :: ds) S Q fun _ _ => False)) w1 ρ S1 σ H1 Q := ⟨Q', E', h1, hq, he⟩
  refine (upW.bind st1 h1).mono ?_
  rintro vs H2 ⟨w2, S2, ds, st2, s2, r2, Q2, E2, h2, hq2, _⟩
  obtain ⟨fs2, ei2, h2⟩ := opt_some h2
  obtain ⟨a2, dx2, fs2', e2, ea2, _, _⟩ := insOf_rel st2.wf ei2 (r1.stp s2)
  cases e2
  exact ⟨.inr ⟨dx2, fs2', ea2⟩, w2, S2, d :: ds, Q2, _, st2.wf, .cons (r1.stp s2) r2, h2, hq2, fun _ _ _ _ _ _ _ _ _ z => z.elim⟩
/-! ### len(x), x of an own class -/
structure Lnb (P : Program) (w : World) (K : PySem.W.Frag) (mg : Str → Option Value) (base : Heap) (k : Nat) (C : Addr) (sp : Sp) : Prop where
  ex : ∃ f, PySem.W.findIn K (.ref C) "__len__" = some (some (.ref f)) ∧ PySem.W.isFn K (.ref f) = true ∧ FnR P w K mg base (L2N.CX P w) k f sp
def rLenO (C : Addr) (sp : Sp) : List V → Hp → VK → Prop := fun xs H Q => ∃ a dx fs, xs = [.ref a] ∧ H a = some (.ins C dx fs) ∧ sp [.ref a] H (fun v H' => ∃ i : Int, v = .int i ∧ 0 ≤ i ∧ i < 2 ^ 63 ∧ Q (.int i) H') nev
theorem room_in1 {k r : Nat} {A : Around} (hr : Room r A) (hk : k + 1 ≤ r) : Room k A.in1 := ⟨hr.hd, by have := hr.dp; show A.depth + 3 * k + 5 < _; omega, by have := hr.un; show A.units + 1 + 16 * k + 200 < _; omega⟩
theorem call_lenO {C : Addr} {sp : Sp} (c : Lnb X.prog X.w X.K X.mg X.base k C sp) (hr : Room r X.A) (hk : k + 1 ≤ r) : CallR X (.builtin "len") (rLenO C sp) := by
  intro pins s σ H xs us Q I rv h
  obtain ⟨f, hs, hf, F⟩ := c.ex
  obtain ⟨a, dx, fs, rfl, ea, h⟩ := h
  cases rv with
  | cons r1 r2 =>
    cases r2
    cases r1
    obtain ⟨mA, O, _⟩ := ins_get I.hok ea
    obtain ⟨od, J, _⟩ := O.look
    refine Calls.call_function_entry kind_len plain_len entry_len (args_len1 _) ?_
    unfold Builtin.«len»
    refine wpAny_bind (m := oneArg "len" _) (wpAny_pure ?_)
    refine wpAny_bind (m := callSpecial? (.ref a) (Str.ofString "__len__")) (PySem.W.special_fn I.kIn J hs (beq_iff_eq.mp hf) ?_)
    have e0 : Env0 X.prog X.w X.K X.mg X.base X.A.in1 X.stack s H := ⟨I.env0.frames, I.env0.mod, I.env0.bs, I.env0.bsz, I.env0.funs, I.env0.frf, I.env0.hok, I.env0.bare⟩
    refine wpAny_call (codeAny_mono (F X.A.in1 X.stack s H [.ref a] [.ref a] _ nev (room_in1 hr hk) e0 (.cons rfl .nil) h) fun rr s' hq => ?_)
    rcases rr with e | fl
    · exact (noX hq).elim
    rcases fl with _ | _ | _ | u
    · exact hq.elim
    · exact hq.elim
    · exact hq.elim
    obtain ⟨v, H', I', ru, i, rfl, h0, h1, q⟩ := I.after hq
    obtain ⟨tk, rfl⟩ : ∃ tk, u = .int i tk := ru
    refine wpAny_bind (wpAny_holding (wpAny_pure (wpAny_bind (wpAny_letGo ?_))))
    show wpAny _ _ (if i < 0 then _ else _) _ _ _
    rw [if_neg (Int.not_lt.mpr h0)]
    show wpAny _ _ (if i ≥ 2 ^ 63 then _ else _) _ _ _
    rw [if_neg (Int.not_le.mpr h1)]
    exact wpAny_bind (wpAny_mkInt (wpAny_pure ⟨_, rfl, ⟨.int i, H', I'.tok _, ⟨_, rfl⟩, q⟩⟩))
def fLenO (C : Str) (sp : ASp) : FN := fun ds S Q => opt (one1 ds) fun d => opt (insOf S d C) fun _ => sp [d] S (fun v S' => opt (asI v) fun i => 0 ≤ i ∧ i < 2 ^ 63 ∧ Q (.int i) S') fun _ _ => False
theorem cs_lenO {c : Cg} : CallS c (fLenO C sp) (rLenO (c.cA C) (upSp c sp)) := by
  intro w S H ds xs Q' Q f rl h k
  obtain ⟨d, e1, h⟩ := opt_some h
  obtain ⟨x, rfl, rd⟩ := one_rel e1 rl
  obtain ⟨fs, ei, h⟩ := opt_some h
  obtain ⟨a, dx, fs', rfl, ea, _, _⟩ := insOf_rel f ei rd
  refine ⟨a, dx, fs', rfl, ea, w, S, [d], _, _, f, .cons rd .nil, h, fun w' S' H' v u s' f' rv q => ?_, fun _ _ _ _ _ _ _ _ _ z => z.elim⟩
  obtain ⟨i, ev, h0, h1, q2⟩ := opt_some q
  obtain ⟨rfl, rfl⟩ := asI_rel ev rv
  exact ⟨i, rfl, h0, h1, k w' S' H' _ _ s' f' (.int i) q2⟩
/-! ### o.m(e, .., k = v, ..) -/
structure MtdK (P : Program) (w : World) (K : PySem.W.Frag) (mg : Str → Option Value) (base : Heap) (k : Nat) (C : Addr) (m : Str) (na : Nat) (ks : List Str) (sp : Sp) : Prop where
  ex : ∃ f fd ps g, Cls K C ∧ Meth K C m f ∧ FnOk P w K mg base (L2N.CX P w) k f fd ps sp ∧ KBn K fd ps (na + 1) ks g (fun vs zs => vs ++ zs)
def tMtdK (C : Addr) (m : Str) (na nk : Nat) (sp : Sp) (E : L2.St → XK) (ta : TE) (t tk : TA) : TE := fun σ H Q => ta σ H fun x H1 => ∃ a dx fs, x = .ref a ∧ H1 a = some (.ins C dx fs) ∧ fs.lookup m = none ∧
  t σ H1 fun vs H2 => tk σ H2 fun zs H3 => vs.length = na ∧ zs.length = nk ∧ sp (.ref a :: (vs ++ zs)) H3 Q (E σ)
theorem pe_meK {pl : Sem Bool} {C : Addr} {na : Nat} {ks : List Str} {sp : Sp} {E : L2.St → XK} {ta : TE} {t tk : TA} {kws : List Keyword} (c : MtdK X.prog X.w X.K X.mg X.base k C m na ks sp) (hr : Room r X.A) (hk : k ≤ r) (hx : ∀ σ, PassesAt (L2N.CX X.prog X.w) X σ (E σ))
    (he : PE X o ta) (ha : PA X (e :: es) t) (hkw : PK X kws tk) (hall : (backToKw pos (keywordEach kws X.env)).all (·.1.isSome) = true := by rfl) (hks : (backToKw pos (keywordEach kws X.env)).filterMap (·.1) = ks := by rfl)
    (hst : starEach (e :: es) X.env = (false, eval e X.env) :: starEach es X.env := by rfl) (hpl : ((backTo pos (starEach (e :: es) X.env)).any (·.1) || (backToKw pos (keywordEach kws X.env)).any (·.1.isNone)) = false := by rfl)
    (ht : eval (.Call (.Attribute o m apos) (e :: es) kws pos) X.env = (do
      let ov ← eval o X.env
      standAt apos.atName
      let (f, first) ← holding [ov] (getMethod ov m pl)
      callWith pos f first (backTo pos (starEach (e :: es) X.env)) (backToKw pos (keywordEach kws X.env))) := by rfl) :
    PE X (.Call (.Attribute o m apos) (e :: es) kws pos) (tMtdK C m na ks.length sp E ta t tk) := by
  obtain ⟨f, fd, ps, g, cl, hm, F, hb⟩ := c.ex
  refine ⟨fun pins s σ H Q I h => PySem.W.methodCall_KW (pl := pl) (thn (he.run pins s σ H _ I h) fun u s1 ⟨x, H1, I1, rx, a, dx, fs, ex, ea, l, q⟩ => ?_) ht⟩
  subst ex
  obtain rfl : u = Value.ref a := rx
  refine getmeth_ok I1 ea cl hm l (PySem.W.callWith_KW (first := [.ref a]) (h₀ := X.base) I.ok.mod.kin hm.kp hall (thn (ha.run pos pins s1 σ H1 _ I1 q) fun us s2 ⟨vs, H2, I2, r2, q2⟩ => ?_) hpl hst)
  refine thn (hkw.run pos pins s2 σ H2 _ I2 q2) fun ws s3 ⟨zs, H3, I3, rz, l1, l2, q3⟩ => ⟨I3.kIn, ?_⟩
  rw [hks]
  have rr := hb.rel (vs := .ref a :: vs) (us := .ref a :: us) (.cons rfl r2) rz
  refine wpAny_call (codeAny_mono (F.run X.A X.stack s3 H3 ⟨.ref a :: us, ks.zip ws⟩ _ _ Q (E σ) (hr.mono hk) I3.env0 (hb.to s3 (.ref a :: us) ws I3.kIn (by rw [List.length_cons, ← r2.length, l1]) (rz.length.symm.trans l2)) rr q3) fun res s' hq => ?_)
  rcases res with e | fl
  · exact hx σ pins H3 s3 e s' I3 hq
  rcases fl with _ | _ | _ | u
  · exact hq.elim
  · exact hq.elim
  · exact hq.elim
  · exact I3.after hq
def aMeK (C m : Str) (na nk : Nat) (sp : ASp) (ta : AM D) (t tk : AM (List D)) : AM D := aBind ta fun d => fun ρ S Q E => opt (insOf S d C) fun fs => fs.lookup m = none ∧
  aBind t (fun ds => aBind tk fun zs => fun _ S Q E => ds.length = na ∧ zs.length = nk ∧ sp (d :: (ds ++ zs)) S Q E) ρ S Q E
theorem j_meK {pl : Sem Bool} {na : Nat} {ks : List Str} {kws : List Keyword} (c : MtdK X.prog X.w X.K X.mg X.base k (n.c.cA C) m na ks (upSp n.c sp)) (hr : Room r X.A) (hk : k ≤ r) (hx : ∀ σ, PassesAt (L2N.CX X.prog X.w) X σ (WE n.W σ))
    (he : JE X n o ta) (ha : JA X n (e :: es) t) (hkw : JK X n kws tk) (hall : (backToKw pos (keywordEach kws X.env)).all (·.1.isSome) = true := by rfl) (hks : (backToKw pos (keywordEach kws X.env)).filterMap (·.1) = ks := by rfl)
    (hst : starEach (e :: es) X.env = (false, eval e X.env) :: starEach es X.env := by rfl) (hpl : ((backTo pos (starEach (e :: es) X.env)).any (·.1) || (backToKw pos (keywordEach kws X.env)).any (·.1.isNone)) = false := by rfl)
    (ht : eval (.Call (.Attribute o m apos) (e :: es) kws pos) X.env = (do
      let ov ← eval o X.env
      standAt apos.atName
      let (f, first) ← holding [ov] (getMethod ov m pl)
      callWith pos f first (backTo pos (starEach (e :: es) X.env)) (backToKw pos (keywordEach kws X.env))) := by rfl) :
    JE X n (.Call (.Attribute o m apos) (e :: es) kws pos) (aMeK C m na ks.length sp ta t tk) := by
  refine PE.imp (pe_meK c hr hk hx he ha hkw hall hks hst hpl ht) fun σ H Q h => ?_
  obtain ⟨w, ρ, S, st, h⟩ := h
  refine (upW.bind st h).mono ?_
  rintro v H1 ⟨w1, S1, d, st1, _, r1, Q', E', ht, hq, he⟩
  obtain ⟨fs, e1, hl, ht⟩ := opt_some ht
  obtain ⟨a, dx, fs', rfl, ha, hn, hs⟩ := insOf_rel st1.wf e1 r1
  refine ⟨a, dx, fs', rfl, ha, (lookup_rel hn hs).1 hl, ?_⟩
  have h1 : upW n.c n.W (Rel n.c) (aBind t (fun ds => aBind tk fun zs => fun _ S Q E => ds.length = na ∧ zs.length = ks.length ∧ sp (d :: (ds ++ zs)) S Q E)) w1 ρ S1 σ H1 Q := ⟨Q', E', ht, hq, he⟩
  refine (upW.bind st1 h1).mono ?_
  rintro vs H2 ⟨w2, S2, ds, st2, s2, r2, h2⟩
  refine (upW.bind st2 h2).mono ?_
  rintro zs H3 ⟨w3, S3, es, st3, s3, r3, Q3, E3, ⟨l1, l2, h3⟩, hq3, he3⟩
  exact ⟨(r2.len).symm.trans l1, (r3.len).symm.trans l2, upSp.of (ρ := ρ) ⟨Q3, E3, h3, hq3, he3⟩ st3.wf (.cons (r1.stp (s2.trans s3)) ((r2.stp s3).append r3))⟩
/-! ### isinstance(x, C), C an own class -/
def fIsiC (C : Str) (Ts : List String) : FN := fun ds S Q => opt (two2 ds) fun p => p.2 = .cl C ∧ match insOf S p.1 C with
  | some _ => Q (.bl true) S
  | none => opt (tyN S p.1) fun T => T ∈ Ts ∧ Q (.bl false) S
def rIsiC (K : PySem.W.Frag) (C : Addr) : List V → Hp → VK → Prop := fun xs H Q => (∃ a dx fs, xs = [.ref a, .ref C] ∧ H a = some (.ins C dx fs) ∧ Q (.bl true) H) ∨ rIsi K xs H Q
theorem call_isiC {C : Addr} (K : PySem.W.Frag) (c : C8.InsC K C) (hK : X.K = K := by rfl) : CallR X (.builtin "isinstance") (rIsiC K C) := by
  subst hK
  exact CallR.or (C8.call_isC c) call_isi
theorem cs_isiC {c : Cg} {Ts : List String} (hT : ∀ T ∈ Ts, PySem.W.kitOne c.K (.type T) (.ref (c.cA C)) = some false) : CallS c (fIsiC C Ts) (rIsiC c.K (c.cA C)) := by
  intro w S H ds xs Q' Q f rl h k
  obtain ⟨p, e1, e2, h⟩ := opt_some h
  obtain ⟨x, y, rfl, rx, ry⟩ := two_rel e1 rl
  rw [e2] at ry
  cases ry
  split at h
  · rename_i fs ei
    obtain ⟨a, dx, fs', rfl, ea, _, _⟩ := insOf_rel f ei rx
    exact .inl ⟨a, dx, fs', rfl, ea, fin0 f k (.bl true) h⟩
  · obtain ⟨T, eT, hm, q⟩ := opt_some h
    exact .inr ⟨x, _, _, _, false, rfl, .own _, (tyN_rel f eT rx).1, hT T hm, fin0 f k (.bl false) q⟩
/-! ### {k: v, ..} with texts as keys: a new dict of the row -/
def aDisp (l : List (Str × AM D)) : AM D := aBind (aPairs l) fun ps => fun _ S Q _ => ps.length ≤ 15 ∧ Q (.ref S.length) (S ++ [.dct (ps.foldl (fun acc p => putS acc p.1 p.2) [])])
inductive JPs (X : Cx) (n : Cn) (pos : Pos) : List (Option Expr) → List Expr → List (Str × AM D) → Prop
  | nil : JPs X n pos [] [] []
  | cons {x : Str} {j : Nat} {p : Pos} {v : Expr} {ks : List (Option Expr)} {vs : List Expr} {tv : AM D} {l : List (Str × AM D)} (hv : JE X n v tv) (hr : JPs X n pos ks vs l) : JPs X n pos (some (.Constant (.str x) j p) :: ks) (v :: vs) ((x, tv) :: l)
def trsOf (n : Cn) (l : List (Str × AM D)) : List (TE × TE) := l.map fun p => (tC (.str p.1), upE n p.2)
theorem JPs.pps {keys : List (Option Expr)} {values : List Expr} {l : List (Str × AM D)} (h : JPs X n pos keys values l) : PPs X pos keys values (trsOf n l) := by
  induction h with
  | nil => exact pps_nil
  | cons hv hr ih => exact pps_cons pe_str hv ih
def relP (c : Cg) (w : Wd) (N : Nat) (H : Hp) (ds : List (Str × D)) (vs : List (V × V)) : Prop := vs.map (·.1) = ds.map (fun p => V.str p.1) ∧ RelL c w N H (ds.map (·.2)) (vs.map (·.2))
theorem up_pairs : ∀ {l : List (Str × AM D)} {w : Wd} {ρ : Ev} {S : Sto} {σ : L2.St} {H : Hp} {Q : List (V × V) → Hp → Prop}, Sta n.c n.g w ρ S σ H → upW n.c n.W (relP n.c) (aPairs l) w ρ S σ H Q → tPairs (trsOf n l) σ H Q
  | [], w, ρ, S, σ, H, Q, st, h => h.fin st.wf ⟨rfl, .nil⟩
  | (x, t) :: l, w, ρ, S, σ, H, Q, st, h => by
    show upE n t σ H fun y H2 => tPairs (trsOf n l) σ H2 fun ps H3 => Q ((.str x, y) :: ps) H3
    refine (upW.bind (r := Rel n.c) st h).mono ?_
    rintro y H2 ⟨w1, S1, d, st1, s1, r1, h1⟩
    obtain ⟨Q', E', h1, hq, he⟩ := h1
    refine up_pairs st1 ⟨_, E', h1, fun w2 S2 H2 ps vs s2 f2 r2 q2 => ?_, he⟩
    exact hq w2 S2 H2 ((x, d) :: ps) ((.str x, y) :: vs) s2 f2 ⟨by simp [r2.1], .cons (r1.stp s2) r2.2⟩ q2
theorem keyd {ps : List (V × V)} {ds : List (Str × D)} : (ps.map (·.1) = ds.map fun p => V.str p.1) → ps = ((ds.zip ps).map fun q => (Sum.inr q.1.1, q.2.2)).map (fun (kv : Key × V) => (kV kv.1, kv.2)) ∧ ((ds.zip ps).map fun q => ((Sum.inr q.1.1 : Key), q.2.2)).map (·.1) = ds.map (fun p => Sum.inr p.1) ∧ ((ds.zip ps).map fun q => ((Sum.inr q.1.1 : Key), q.2.2)).map (·.2) = ps.map (·.2) := by
  induction ds generalizing ps with
  | nil =>
    intro h
    cases ps with
    | nil => exact ⟨rfl, rfl, rfl⟩
    | cons _ _ => simp at h
  | cons d ds ih =>
    intro h
    cases ps with
    | nil => simp at h
    | cons p ps =>
      simp only [List.map_cons, List.cons.injEq] at h
      obtain ⟨i1, i2, i3⟩ := ih h.2
      refine ⟨?_, ?_, ?_⟩
      · simp only [List.zip_cons_cons, List.map_cons]
        rw [← i1]
        obtain ⟨a, b⟩ := p
        have : a = V.str d.1 := h.1
        rw [this]; rfl
      · simp only [List.zip_cons_cons, List.map_cons, i2]
      · simp only [List.zip_cons_cons, List.map_cons, i3]
theorem merge_rel {c : Cg} {w : Wd} {N : Nat} {H : Hp} : ∀ {ds acc : List (Str × D)} {kvs acc' : List (Key × V)}, kvs.map (·.1) = ds.map (fun p => Sum.inr p.1) → RelL c w N H (ds.map (·.2)) (kvs.map (·.2)) → acc'.map (·.1) = acc.map (fun p => Sum.inr p.1) → RelL c w N H (acc.map (·.2)) (acc'.map (·.2)) →
    (mergeK acc' kvs).map (·.1) = (ds.foldl (fun acc p => putS acc p.1 p.2) acc).map (fun p => Sum.inr p.1) ∧ RelL c w N H ((ds.foldl (fun acc p => putS acc p.1 p.2) acc).map (·.2)) ((mergeK acc' kvs).map (·.2))
  | [], acc, kvs, acc', h1, _, h3, h4 => by
    cases kvs with
    | nil => exact ⟨h3, h4⟩
    | cons _ _ => simp at h1
  | d :: ds, acc, kvs, acc', h1, h2, h3, h4 => by
    cases kvs with
    | nil => simp at h1
    | cons kv kvs =>
      simp only [List.map_cons, List.cons.injEq] at h1 h2
      cases h2 with
      | cons r1 r2 =>
        obtain ⟨p1, p2⟩ := putK_rel (k := d.1) r1 h3 h4
        obtain ⟨k1, k2⟩ := kv
        have e : k1 = Sum.inr d.1 := h1.1
        subst e
        exact merge_rel (ds := ds) (kvs := kvs) h1.2 r2 p1 p2
/-- an address that one keeps for oneself becomes an object of the row -/
theorem own_open {c : Cg} {w w2 : Wd} {S S2 : Sto} {H H2 : Hp} {a : Addr} {ob : O} {kv : List (Key × V)} {ho : HO} (hD : H a = none) (s : Stp w S.length H w2 S2.length H2) (f2 : Wf c w2 S2 H2) (hR : w2.R a) (hn : ∀ m, m < S2.length → w2.i m ≠ a)
    (hu : H2 a = some (.dK kv)) (ro : ∀ w3 H3, Stp0 w2 S2.length H2 w3 (S2.length + 1) H3 → H3 a = some ho → RelO c w3 (S2.length + 1) H3 ob a) :
    ∃ w3, Stp w S.length H w3 (S2 ++ [ob]).length (upd H2 a ho) ∧ Wf c w3 (S2 ++ [ob]) (upd H2 a ho) ∧ Rel c w3 (S2 ++ [ob]).length (upd H2 a ho) (.ref S2.length) (.ref a) := by
  have len : (S2 ++ [ob]).length = S2.length + 1 := by simp
  have old : ∀ m, m < S2.length → (if m = S2.length then a else w2.i m) = w2.i m := fun m hm => if_neg (Nat.ne_of_lt hm)
  have sp : ∀ n, n < S2.length + 1 → n = S2.length ∨ n < S2.length := fun n h => by omega
  have keep : ∀ b o, H2 b = some o → b ≠ a → upd H2 a ho b = some o := fun b o e h => by rw [upd_ne h]; exact e
  have s0 : Stp0 w2 S2.length H2 ⟨w2.R, fun m => if m = S2.length then a else w2.i m⟩ (S2.length + 1) (upd H2 a ho) := by
    refine ⟨Nat.le_succ _, old, fun _ h => .inl h, fun b o e r => keep b o e fun z => r (z ▸ hR), fun b xs h => ?_⟩
    have z : b ≠ a := fun z => by subst z; rcases h with h | ⟨q, h⟩ <;> rw [hu] at h <;> cases h
    rcases h with h | ⟨q, h⟩
    · exact .inl (keep _ _ h z)
    · exact .inr ⟨q, keep _ _ h z⟩
  have s' : Stp w S.length H w2 S2.length (upd H2 a ho) := s.mut hD
  refine ⟨⟨w2.R, fun m => if m = S2.length then a else w2.i m⟩, ?_, ?_, ?_⟩
  · rw [len]
    refine ⟨Nat.le_succ_of_le s'.le, fun m hm => (old m (Nat.lt_of_lt_of_le hm s'.le)).trans (s'.ids m hm), fun m h1 h2 => ?_, s'.up, s'.res, s'.fro, s'.rsv, s'.dom, s'.tups⟩
    rcases sp m h2 with rfl | h2
    · show H (if S2.length = S2.length then a else _) = none
      rw [if_pos rfl]; exact hD
    · show H (if m = S2.length then a else _) = none
      rw [old m h2]; exact s'.new m h1 h2
  · refine ⟨fun m hm => ?_, fun b hb => ?_, fun m k hm hk e => ?_, fun m o e => ?_⟩
    · rw [len] at hm
      show w2.R (if m = S2.length then a else w2.i m)
      rcases sp m hm with rfl | hm
      · rw [if_pos rfl]; exact hR
      · rw [old m hm]; exact f2.res m hm
    · by_cases z : b = a
      · subst z; exact ⟨ho, upd_same⟩
      · obtain ⟨o, e⟩ := f2.held b hb
        exact ⟨o, keep b o e z⟩
    · rw [len] at hm hk
      have e : (if m = S2.length then a else w2.i m) = (if k = S2.length then a else w2.i k) := e
      rcases sp m hm with rfl | hm
      · rcases sp k hk with rfl | hk
        · rfl
        · rw [if_pos rfl, old k hk] at e; exact absurd e.symm (hn k hk)
      · rcases sp k hk with rfl | hk
        · rw [if_pos rfl, old m hm] at e; exact absurd e (hn m hm)
        · rw [old m hm, old k hk] at e; exact f2.inj m k hm hk e
    · rw [len]
      have hm : m < S2.length + 1 := by rw [← len]; exact (List.getElem?_eq_some_iff.mp e).1
      rcases sp m hm with rfl | hm
      · have z : o = ob := by simpa using e.symm
        subst z
        show RelO c _ _ _ o (if S2.length = S2.length then a else _)
        rw [if_pos rfl]
        exact ro _ _ s0 upd_same
      · show RelO c _ _ _ o (if m = S2.length then a else w2.i m)
        rw [old m hm]
        rw [List.getElem?_append_left hm] at e
        exact RelO.at0 s0 (f2.obj m o e) fun x hx => keep _ _ hx (hn m hm)
  · rw [len]
    have := Rel.ref (c := c) (w := ⟨w2.R, fun m => if m = S2.length then a else w2.i m⟩) (N := S2.length + 1) (H := upd H2 a ho) (n := S2.length) (Nat.lt_succ_self _)
    have e : (if S2.length = S2.length then a else w2.i S2.length) = a := if_pos rfl
    rw [show (Wd.mk w2.R fun m => if m = S2.length then a else w2.i m).i S2.length = a from e] at this
    exact this
theorem j_disp {keys : List (Option Expr)} {values : List Expr} {l : List (Str × AM D)} (h : JPs X n pos keys values l) (hall : keys.all (·.isSome) = true) (hl : keys.length = values.length) (h0 : keys ≠ []) (h15 : keys.length ≤ 15) :
    JE X n (.Dict keys values pos) (aDisp l) := by
  refine PE.imp (pe_disp h.pps hall hl h0 h15) fun σ H Q ⟨w, ρ, S, st, hh⟩ => ?_
  intro p hp
  obtain ⟨Q', E', ht, hq, he⟩ := hh
  have st1 : Sta n.c n.g (w.hold p) ρ S σ (upd H p (.dK [])) := st.step (Stp.hold hp _) (st.wf.hold hp _)
  have sh : Stp w S.length H (w.hold p) S.length (upd H p (.dK [])) := Stp.hold hp _
  have hpn : ∀ m, m < S.length → (w.hold p).i m ≠ p := fun m hm z => by
    obtain ⟨o, e, _⟩ := RelO.isAt (st.wf.obj m S[m] (by simp))
    have z' : w.i m = p := z
    rw [z', hp] at e; cases e
  refine up_pairs st1 ⟨_, E', ht, fun w2 S2 H2 ps vs s2 f2 r2 q2 => ?_, fun w' S' H' x cls d s f r q => he w' S' H' x cls d (sh.trans s) f r q⟩
  · have hR : w2.R p := s2.up p (.inr rfl)
    have hn2 : ∀ m, m < S2.length → w2.i m ≠ p := fun m hm z => by
      by_cases h1 : m < S.length
      · rw [s2.ids m h1] at z; exact hpn m h1 z
      · have := s2.new m (by omega) hm
        rw [z, upd_same] at this; cases this
    have hu : H2 p = some (.dK []) := s2.rsv p _ upd_same (.inr rfl) hpn
    obtain ⟨k1, k2, k3⟩ := keyd r2.1
    refine ⟨hu, _, k1, ?_, ?_⟩
    · have l1 : vs.length = ps.length := by simpa using congrArg List.length r2.1
      rw [List.length_map, List.length_zip, l1, Nat.min_self]
      exact q2.1
    · obtain ⟨w3, s3, f3, r3⟩ := own_open (ob := .dct (ps.foldl (fun acc p => putS acc p.1 p.2) [])) (ho := .dK (mergeK [] ((ps.zip vs).map fun q => ((Sum.inr q.1.1 : Key), q.2.2)))) hp (sh.trans s2) f2 hR hn2 hu (fun w3 H3 s0 e3 => by
        obtain ⟨m1, m2⟩ := merge_rel (acc := []) (acc' := []) k2 (by rw [k3]; exact r2.2.stp0 s0) rfl .nil
        exact ⟨_, e3, m1, m2⟩)
      exact hq w3 _ _ _ _ s3 f3 r3 q2.2
end
end A

set_option Elab.async false
set_option linter.all false
set_option maxRecDepth 100000
set_option maxHeartbeats 4000000
/-! pairs and triples stored where an error is handled -/
namespace A
open PySem PySem.Spec PyProof.Rows L2 HotX L2H
section
variable {prog : Program} {w : World} {A : Around} {E : Value → Shared → Prop} {s : Shared}
theorem next_tuple_end_hot {it t x1 : Addr} {i : Nat} {items : Array Value} {Q : Option Value → Shared → Prop} (hot : HotAt A x1 s.heap) (ni : x1 ≠ it)
    (hit : IsTupIter s.heap it t i) (ht : IsTup s.heap t items) (hx : items[i]? = none)
    (hQ : ∀ h', Heap.ExtBut it s.heap h' → Q none { s with heap := h' }) : wpAny (model prog w) A (pyNext (.ref it)) Q E s := by
  obtain ⟨o, ho, hc, hd⟩ := id hit
  obtain ⟨ol, hol, _, nl, hdl⟩ := ht
  obtain ⟨hh, o1, vs1, h1, d1, c1⟩ := hot
  unfold pyNext
  refine wpAny_bind (wpAny_attempt (wpAny_callSpecial?_slot (name := Str.ofString "__next__") hit.typeIs slot_tupleiter_next
    (wpAny_call_entry slot_tupleiter_next hit.typeIs entry_tupleiter_next ?_ (args_tupleiter_next _))))
  show wpAny _ _ (field (.ref it) 0 >>= _) _ _ s
  refine wpAny_bind (wpAny_field ho hd (x := .ref t) rfl ?_)
  show wpAny _ _ (if (Value.ref t == Value.none) = true then _ else _) _ _ s
  rw [if_neg (show ¬ ((Value.ref t == Value.none) = true) from Bool.false_ne_true)]
  show wpAny _ _ (field (.ref it) 1 >>= _) _ _ s
  refine wpAny_bind (wpAny_field ho hd (x := .int i 0) rfl ?_)
  show wpAny _ _ (seqItems? (.ref t) >>= _) _ _ s
  refine wpAny_bind (wpAny_seqItems hol hdl ?_)
  simp only [Int.toNat_natCast, hx]
  refine wpAny_bind (wpAny_rule (wpAny_bind (wpAny_setField ho hd (by simp) ?_)))
  show wpAny _ _ (newExc (.type "StopIteration") [] >>= _) _ _ _
  refine wpAny_bind ?_
  simp only [newExc, newTuple]
  refine wpAny_bind (wpAny_newObj_type ?_ (by size_fits))
  refine wpAny_bind (m := firstArgMember _ _) (wpAny_of_eq (a := Value.none) (by first | rfl | (simp only [firstArgMember]; rfl)) ?_)
  refine wpAny_newObj_type ?_ (by size_fits)
  have h1' : (s.heap.update it (Obj.mapFields (·.setIfInBounds 0 .none))).get? x1 = some o1 := by rw [Heap.get?_update_other _ _ (Ne.symm ni)]; exact h1
  refine raiseNew_hot ⟨hh, o1, vs1, Heap.get?_push_of_some _ (Heap.get?_push_of_some _ h1'), d1, c1⟩ (Nat.ne_of_lt (Heap.lt_size (Heap.get?_push_of_some _ h1'))) (Heap.get?_push_size _ rfl) rfl (by first | (simp; done) | (simp; omega) | (simp only [Array.size_append]; simp; omega)) ?_
  refine wpAny_bind (wpAny_isInstance (T := "StopIteration") (b := true) ⟨_, Heap.get?_update_self _ (Heap.get?_push_size _ rfl) rfl, rfl⟩ isSubtype_stop ?_)
  refine wpAny_pure (hQ _ fun b o hb e => ?_)
  refine (Heap.get?_update_other _ _ ?_).trans ((((Heap.SameBut.update ..).extBut.push _).push _) b o hb e)
  have h3 := Heap.lt_size e
  intro z
  rw [Heap.size_push, Heap.size_update] at z
  exact absurd h3 (Nat.not_lt.mpr (z ▸ Nat.le_succ _))
theorem unpackItems_tuple_hot {t x1 : Addr} {items : Array Value} {Q : List Value → Shared → Prop} (hot : HotAt A x1 s.heap) (ht : IsTup s.heap t items)
    (hQ : ∀ h', Heap.ExtBut s.heap.objs.size s.heap h' → Q items.toList { s with heap := h' }) : wpAny (model prog w) A (unpackItems (.ref t) items.size none) Q E s := by
  have hlt : t ≠ s.heap.objs.size := by obtain ⟨o, ho, _⟩ := ht; exact Nat.ne_of_lt (Heap.lt_size ho)
  obtain ⟨hh, o1, vs1, h1, d1, c1⟩ := hot
  have hlx : x1 ≠ s.heap.objs.size := Nat.ne_of_lt (Heap.lt_size h1)
  unfold unpackItems
  refine wpAny_bind ?_
  · unfold notIterableAtAll
    refine wpAny_bind (wpAny_specialOf ht.typeIs slot_tuple_iter.lookup ?_)
    refine wpAny_pure ?_
    simp only [Bool.false_eq_true, if_false]
    refine wpAny_bind (wpAny_holding (iter_tuple ht ?_))
    refine wpAny_bind (wpAny_holding (draw_tuple hlt items.size 0 _ _ ⟨_, Heap.get?_push_size _ rfl, rfl, rfl⟩ (ht.push _) (by omega) fun h₁ hit₁ hs₁ => ?_))
    have hall : List.take items.size (List.drop 0 items.toList) = items.toList := by
      rw [List.drop_zero]; exact List.take_of_length_le (by simp)
    rw [hall]
    rw [if_neg (by simp)]
    have ht₁ : IsTup h₁ t items := (ht.push _).extBut hs₁.extBut hlt
    have hx₁ : h₁.get? x1 = some o1 := hs₁.extBut x1 o1 hlx (Heap.get?_push_of_some _ h1)
    refine wpAny_bind (wpAny_holding (next_tuple_end_hot ⟨hh, o1, vs1, hx₁, d1, c1⟩ hlx hit₁ ht₁ (by simp) fun h₂ he₂ => ?_))
    simp only [Option.isSome_none, Bool.false_eq_true, if_false]
    refine wpAny_pure (hQ h₂ fun b o hb e => he₂ b o hb (hs₁.extBut b o hb (Heap.get?_push_of_some _ e)))
end
section
variable {X : Cx} {pos : Pos}
/-- nothing is handled, or an error whose context is None -/
def Unp (X : Cx) : Prop := X.calm = true ∨ HotC X
theorem unp_tuple {t : Addr} {items : Array Value} {Q : List Value → Shared → Prop} {pins : List (Addr × Obj)} {σ : L2.St} {H : Hp} {s : Shared} (u : Unp X) (I : Inv X pins σ H s) (ht : IsTup s.heap t items)
    (hQ : ∀ h', Heap.ExtBut s.heap.objs.size s.heap h' → Q items.toList { s with heap := h' }) : wpAny (model X.prog X.w) X.A (unpackItems (.ref t) items.size none) Q X.xe s := by
  rcases u with hc | hc
  · exact unpackItems_tuple (I.ok.hd hc) ht hQ
  · obtain ⟨x1, hot⟩ := hc.at I
    exact unpackItems_tuple_hot hot ht hQ
theorem hot_suite {a : Addr} {oe : Obj} {cls : Value} {d : Option Addr} {pn : List (Addr × Obj)} (hz : L2N.Zn cls d oe) (hf : ∃ vs, oe.data = .fields vs) : Unp (X.suite a ((a, oe) :: pn)) := by
  obtain ⟨vs, hv⟩ := hf
  exact .inr ⟨(a, oe), ⟨rfl, vs, hv, hz.2.2 vs hv⟩, List.mem_cons_self⟩
theorem ps_parU {i j : Nat} {x y : Str} {a b : Expr} {ta : TA} {px py pt : Pos} {kt k2 pt2} (hc : Unp X) (hN : X.N.Nodup) (hi : X.N[i]? = some x) (hj : X.N[j]? = some y) (hij : i ≠ j)
    (hx : X.env.scope.names.lookup x = some .local) (hy : X.env.scope.names.lookup y = some .local) (ha : PA X [a, b] ta)
    (hw : swappedStores [.Tuple [.Name x px, .Name y py] kt pt] (.Tuple [a, b] k2 pt2) X.env = pure (some [x, y]))
    (hs : swapsWithSole [.Tuple [.Name x px, .Name y py] kt pt] (.Tuple [a, b] k2 pt2) pos.line X.env = pure false := by rfl) :
    PS X (.Assign [.Tuple [.Name x px, .Name y py] kt pt] (.Tuple [a, b] k2 pt2) pos) (tPar i j ta) := by
  refine ⟨fun pins s σ H D I h => ?_⟩
  rw [exec_Assign_arm]
  refine wpAny_bind (wpAny_standAt ?_)
  rw [hs]
  refine wpAny_bind (wpAny_pure ?_)
  rw [if_neg (by decide)]
  refine wpAny_bind (Tuple_ (thn (ha.run _ pins s σ H _ I h) fun us s1 ⟨vs, H1, I1, r1, q1⟩ => ?_))
  obtain ⟨v, w, e1, q1⟩ := q1
  subst e1
  obtain ⟨u1, u2, rfl, rv, rw'⟩ : ∃ u1 u2, us = [u1, u2] ∧ RelV v u1 ∧ RelV w u2 := by
    cases r1 with
    | cons p q =>
      cases q with
      | cons p' q' =>
        cases q'
        exact ⟨_, _, rfl, p, p'⟩
  refine wpAny_newObj_type ?_ (by show 2 ≤ sizeLine; decide)
  have I2 : Inv X pins σ H1 { s1 with heap := s1.heap.push { cls := .type "tuple", data := .seq [u1, u2].toArray } } := I1.kept (t' := s1.toks) fun b o e => Heap.get?_push_of_some _ e
  rw [hw]
  refine wpAny_bind (wpAny_pure ?_)
  show wpAny (model X.prog X.w) X.A (do rule "assign.swapped-stores"; let items ← unpackItems (.ref s1.heap.objs.size) 2 none; assignInOrder [fun v => bindName X.env y v, fun v => bindName X.env x v] items.reverse; pure Flow.next) _ _ _
  refine wpAny_bind (wpAny_rule (wpAny_bind (unp_tuple (items := #[u1, u2]) hc I2 (IsTup.new s1.heap _) fun h' hx' => ?_)))
  have I3 := I2.kept (h' := h') (t' := s1.toks) fun b o e => hx' b o (Nat.ne_of_lt (Heap.lt_size e)) e
  show wpAny _ _ (assignInOrder [fun v => bindName X.env y v, fun v => bindName X.env x v] [u2, u1] >>= fun _ => pure Flow.next) _ _ _
  refine wpAny_bind (assignInOrder_cons (wpAny_bindName (store_ok I3 hN hj (.inl hy) rw' (fun s2 I4 => ?_) (.inr hy))))
  refine assignInOrder_cons (wpAny_bindName (store_ok I4 hN hi (.inl hx) rv (fun s3 I5 => assignInOrder_nil (wpAny_pure ?_)) (.inr hx)))
  rw [List.set_comm _ _ (Ne.symm hij)] at I5
  exact ⟨_, H1, I5, q1⟩
theorem ps_par3U {i j l : Nat} {x y z : Str} {a b c : Expr} {ta : TA} {px py pz pt pos : Pos} {kt k2 pt2} (hc : Unp X) (hN : X.N.Nodup) (hi : X.N[i]? = some x) (hj : X.N[j]? = some y) (hl : X.N[l]? = some z) (hij : i ≠ j) (hil : i ≠ l) (hjl : j ≠ l)
    (hx : X.env.scope.names.lookup x = some .local) (hy : X.env.scope.names.lookup y = some .local) (hz : X.env.scope.names.lookup z = some .local) (ha : PA X [a, b, c] ta)
    (hw : swappedStores [.Tuple [.Name x px, .Name y py, .Name z pz] kt pt] (.Tuple [a, b, c] k2 pt2) X.env = pure (some [x, y, z]))
    (hs : swapsWithSole [.Tuple [.Name x px, .Name y py, .Name z pz] kt pt] (.Tuple [a, b, c] k2 pt2) pos.line X.env = pure false := by rfl) :
    PS X (.Assign [.Tuple [.Name x px, .Name y py, .Name z pz] kt pt] (.Tuple [a, b, c] k2 pt2) pos) (tPar3 i j l ta) := by
  refine ⟨fun pins s σ H D I h => ?_⟩
  rw [exec_Assign_arm]
  refine wpAny_bind (wpAny_standAt ?_)
  rw [hs]
  refine wpAny_bind (wpAny_pure ?_)
  rw [if_neg (by decide)]
  refine wpAny_bind (Tuple_ (thn (ha.run _ pins s σ H _ I h) fun us s1 ⟨vs, H1, I1, r1, q1⟩ => ?_))
  obtain ⟨v1, v2, v3, e1, q1⟩ := q1
  subst e1
  obtain ⟨u1, u2, u3, rfl, r1', r2', r3'⟩ : ∃ u1 u2 u3, us = [u1, u2, u3] ∧ RelV v1 u1 ∧ RelV v2 u2 ∧ RelV v3 u3 := by
    cases r1 with
    | cons p q =>
      cases q with
      | cons p' q' =>
        cases q' with
        | cons p'' q'' =>
          cases q''
          exact ⟨_, _, _, rfl, p, p', p''⟩
  refine wpAny_newObj_type ?_ (by show 3 ≤ sizeLine; decide)
  have I2 : Inv X pins σ H1 { s1 with heap := s1.heap.push { cls := .type "tuple", data := .seq [u1, u2, u3].toArray } } := I1.kept (t' := s1.toks) fun b o e => Heap.get?_push_of_some _ e
  rw [hw]
  refine wpAny_bind (wpAny_pure ?_)
  show wpAny (model X.prog X.w) X.A (do rule "assign.swapped-stores"; let items ← unpackItems (.ref s1.heap.objs.size) 3 none; assignInOrder [fun v => bindName X.env z v, fun v => bindName X.env y v, fun v => bindName X.env x v] items.reverse; pure Flow.next) _ _ _
  refine wpAny_bind (wpAny_rule (wpAny_bind (unp_tuple (items := #[u1, u2, u3]) hc I2 (IsTup.new s1.heap _) fun h' hx' => ?_)))
  have I3 := I2.kept (h' := h') (t' := s1.toks) fun b o e => hx' b o (Nat.ne_of_lt (Heap.lt_size e)) e
  show wpAny _ _ (assignInOrder [fun v => bindName X.env z v, fun v => bindName X.env y v, fun v => bindName X.env x v] [u3, u2, u1] >>= fun _ => pure Flow.next) _ _ _
  refine wpAny_bind (assignInOrder_cons (wpAny_bindName (store_ok I3 hN hl (.inl hz) r3' (fun s2 I4 => ?_) (.inr hz))))
  refine assignInOrder_cons (wpAny_bindName (store_ok I4 hN hj (.inl hy) r2' (fun s3 I5 => ?_) (.inr hy)))
  refine assignInOrder_cons (wpAny_bindName (store_ok I5 hN hi (.inl hx) r1' (fun s4 I6 => assignInOrder_nil (wpAny_pure ?_)) (.inr hx)))
  rw [List.set_comm _ _ (Ne.symm hjl), List.set_comm _ _ (Ne.symm hil), List.set_comm _ _ (Ne.symm hij)] at I6
  exact ⟨_, H1, I6, q1⟩
end
section
variable {X : Cx} {n : Cn} {pos : Pos}
theorem js_parU {i j : Nat} {x y : Str} {a b : Expr} {ta : AM (List D)} {px py pt : Pos} {kt k2 pt2} (hc : Unp X) (hN : X.N.Nodup) (hi : X.N[i]? = some x) (hj : X.N[j]? = some y) (hij : i ≠ j)
    (hx : X.env.scope.names.lookup x = some .local) (hy : X.env.scope.names.lookup y = some .local) (ha : JA X n [a, b] ta)
    (hw : swappedStores [.Tuple [.Name x px, .Name y py] kt pt] (.Tuple [a, b] k2 pt2) X.env = pure (some [x, y]))
    (hs : swapsWithSole [.Tuple [.Name x px, .Name y py] kt pt] (.Tuple [a, b] k2 pt2) pos.line X.env = pure false := by rfl) :
    JS X n (.Assign [.Tuple [.Name x px, .Name y py] kt pt] (.Tuple [a, b] k2 pt2) pos) (sPar i j ta) := PS.imp (ps_parU hc hN hi hj hij hx hy ha hw hs) fun De σ H h => by
  refine (upS.bind h).mono ?_
  rintro vs H1 ⟨w1, ρ, S1, D', ds, st1, r1, hf, k⟩
  obtain ⟨p, e1, q⟩ := opt_some hf
  obtain ⟨v, v', rfl, rv, rw'⟩ := two_rel e1 r1
  exact ⟨v, v', rfl, k.nx w1 _ S1 _ H1 Stp.refl ⟨st1.wf, (st1.ev.set rv).set rw', st1.gx⟩ q⟩
def sPar3 (i j l : Nat) (t : AM (List D)) : AS := sBind t fun ds De ρ S => opt (three3 ds) fun p => De.nx (((ρ.set i (some p.1)).set j (some p.2.1)).set l (some p.2.2)) S
theorem js_par3U {i j l : Nat} {x y z : Str} {a b c : Expr} {ta : AM (List D)} {px py pz pt : Pos} {kt k2 pt2} (hc : Unp X) (hN : X.N.Nodup) (hi : X.N[i]? = some x) (hj : X.N[j]? = some y) (hl : X.N[l]? = some z) (hij : i ≠ j) (hil : i ≠ l) (hjl : j ≠ l)
    (hx : X.env.scope.names.lookup x = some .local) (hy : X.env.scope.names.lookup y = some .local) (hz : X.env.scope.names.lookup z = some .local) (ha : JA X n [a, b, c] ta)
    (hw : swappedStores [.Tuple [.Name x px, .Name y py, .Name z pz] kt pt] (.Tuple [a, b, c] k2 pt2) X.env = pure (some [x, y, z]))
    (hs : swapsWithSole [.Tuple [.Name x px, .Name y py, .Name z pz] kt pt] (.Tuple [a, b, c] k2 pt2) pos.line X.env = pure false := by rfl) :
    JS X n (.Assign [.Tuple [.Name x px, .Name y py, .Name z pz] kt pt] (.Tuple [a, b, c] k2 pt2) pos) (sPar3 i j l ta) := PS.imp (ps_par3U hc hN hi hj hl hij hil hjl hx hy hz ha hw hs) fun De σ H h => by
  refine (upS.bind h).mono ?_
  rintro vs H1 ⟨w1, ρ, S1, D', ds, st1, r1, hf, k⟩
  obtain ⟨p, e1, q⟩ := opt_some hf
  match ds, vs, e1, r1 with
  | [_, _, _], _, e1, .cons ra (.cons rb (.cons rc .nil)) =>
    cases e1
    exact ⟨_, _, _, rfl, k.nx w1 _ S1 _ H1 Stp.refl ⟨st1.wf, ((st1.ev.set ra).set rb).set rc, st1.gx⟩ q⟩
end
end A

set_option Elab.async false
set_option linter.all false
set_option maxRecDepth 100000
set_option maxHeartbeats 4000000
/-! comprehensions over a list of ints that may change -/
namespace A
open PySem PySem.Spec PyProof.Rows L2
def lcR (m : Nat) (xs : List D) (g : AG) (tt : AM Bool) (te : AM D) (ρ : Ev) (Q : List D → Sto → Prop) : List D → List D → Sto → Prop
  | [], acc, S => lstAt S m = some xs ∧ Q acc S
  | x :: r, acc, S => lstAt S m = some xs ∧ g x ρ fun ρ2 => tt ρ2 S (fun b S3 => if b = true then te ρ2 S3 (fun y S4 => acc.length < big ∧ lcR m xs g tt te ρ Q r (acc ++ [y]) S4) (fun _ _ => False) else lcR m xs g tt te ρ Q r acc S3) fun _ _ => False
theorem relL_ints_eq {c : Cg} {w : Wd} {N : Nat} {H : Hp} : ∀ {ns : List Int} {vs : List V}, RelL c w N H (ns.map D.int) vs → vs = ns.map V.int
  | [], _, .nil => rfl
  | n :: ns, _, .cons (.int _) r => by rw [relL_ints_eq r]; rfl
theorem lc_runR {n : Cn} {J : It} {m0 : Nat} {ns : List Int} {a : Addr} {g : TG} {gD : AG} {tt : AM Bool} {te : AM D} {vs : List Nat} {w : Wd} {ρ : Ev} {S : Sto} {σ : L2.St} {H1 : Hp} {Qd : List D → Sto → Prop} {Q : VK} (gl : GL n.c g gD vs) (st : Sta n.c n.g w ρ S σ H1)
    (ea : w.i m0 = a) (wk : Walk J ns.length (fun H => SqB n.c.K H true a (ns.map V.int)) (YAt (ns.map V.int))) (h : lcR m0 (ns.map A.D.int) gD tt te (wipeD ρ vs) Qd (ns.map A.D.int) [] S)
    (hd : ∀ D w2 S2 H2 ys us, H1 D = none → Stp w S.length H1 w2 S2.length H2 → Wf n.c w2 S2 H2 → w2.R D → (∀ m, m < S2.length → w2.i m ≠ D) → H2 D = some (.lst us) → RelL n.c w2 S2.length H2 ys us → Qd ys S2 → Q (.ref D) H2) :
    LcB J g (upT n.no tt) (upE n.no te) vs σ Q H1 := by
  have gd : ∀ {w2 : Wd} {S2 : Sto} {H2 : Hp} {r ys : List D}, Stp w S.length H1 w2 S2.length H2 → Wf n.c w2 S2 H2 → lcR m0 (ns.map A.D.int) gD tt te (wipeD ρ vs) Qd r ys S2 → H2 a = some (.lst (ns.map V.int)) := by
    intro w2 S2 H2 r ys s2 f2 hx
    have hm0 : m0 < S.length := by
      cases hns : (ns.map A.D.int) with
      | nil => rw [hns] at h; exact (lstAt_rel st.wf h.1).2.1
      | cons x r => rw [hns] at h; exact (lstAt_rel st.wf h.1).2.1
    have hl : lstAt S2 m0 = some (ns.map A.D.int) := by
      cases r with
      | nil => exact hx.1
      | cons x r => exact hx.1
    obtain ⟨_, _, vs2, hu, rl⟩ := lstAt_rel f2 hl
    rw [s2.ids m0 hm0, ea] at hu
    rw [hu, relL_ints_eq rl]
  refine lcB wk (fun D i H => ∃ w2 S2 ys us, Stp w S.length H1 w2 S2.length H ∧ Wf n.c w2 S2 H ∧ w2.R D ∧ (∀ m, m < S2.length → w2.i m ≠ D) ∧ H D = some (.lst us) ∧ RelL n.c w2 S2.length H ys us ∧ lcR m0 (ns.map A.D.int) gD tt te (wipeD ρ vs) Qd ((ns.map A.D.int).drop i) ys S2) ?_ ?_ ?_ ?_
  · intro D hD
    refine ⟨w.hold D, S, [], [], Stp.hold hD _, st.wf.hold hD _, .inr rfl, fun m hm z => ?_, upd_same, .nil, h⟩
    obtain ⟨ho, e, _⟩ := RelO.isAt (st.wf.obj m S[m] (by simp))
    have z : w.i m = D := z
    rw [z, hD] at e; cases e
  · rintro D i H hi ⟨w2, S2, ys, us, s2, f2, _, _, _, _, hx⟩
    exact SqL.of (gd s2 f2 hx)
  · rintro D i x H H' hD hi ⟨w2, S2, ys, us, s2, f2, hR, hn, hu, hl, hx⟩ y
    obtain ⟨rfl, hy⟩ := y
    have sm : Same H' H' := Same.refl _
    have hi' : i < ns.length := by simpa using hi
    have rd : Rel n.c w2 S2.length H' (.int (ns[i])) x := by
      rw [List.getElem?_map, List.getElem?_eq_getElem hi'] at hy
      cases hy
      exact .int _
    have sH : Stp w2 S2.length H' w2 S2.length H' := Stp.same sm
    have f3 := f2.same sm
    have hdr : (ns.map A.D.int).drop i = .int (ns[i]) :: (ns.map A.D.int).drop (i + 1) := by
      rw [List.drop_eq_getElem_cons (by simpa using hi')]
      simp
    rw [hdr] at hx
    have hx := hx.2
    have st3 : Sta n.c n.g w2 (wipeD ρ vs) S2 (wipe σ vs) H' := ⟨f3, (st.ev.stp (s2.trans sH)).wipe vs, st.gx.stp (s2.trans sH)⟩
    refine gl n.g w2 (wipeD ρ vs) S2 (wipe σ vs) H' (.int (ns[i])) x _ _ st3 rd hx fun ρ2 σ2 st4 hw hx => ⟨?_, ?_⟩
    · rw [hw]
      exact wipe_twice σ vs
    · refine ⟨w2, ρ2, S2, st4, _, _, hx, ?_, fun _ _ _ _ _ _ _ _ _ z => z.elim⟩
      rintro w5 S5 H5 b b' s5 f5 rfl hx
      have hD5 : H5 D = some (.lst us) := s5.rsv D _ (sm _ _ hu) hR hn
      have n5 : ∀ m, m < S5.length → w5.i m ≠ D := fun m hm z => by
        by_cases k : m < S2.length
        · rw [s5.ids m k] at z; exact hn m k z
        · have q := s5.new m (by omega) hm
          rw [z, sm _ _ hu] at q; cases q
      cases b with
      | false =>
        rw [if_neg Bool.false_ne_true] at hx ⊢
        exact ⟨w5, S5, ys, us, (s2.trans sH).trans s5, f5, s5.up _ hR, n5, hD5, (hl.stp sH).stp s5, hx⟩
      | true =>
        rw [if_pos rfl] at hx ⊢
        refine ⟨w5, ρ2, S5, st4.step s5 f5, _, _, hx, ?_, fun _ _ _ _ _ _ _ _ _ z => z.elim⟩
        rintro w6 S6 H6 yd yv s6 f6 ry ⟨hb, hx⟩
        have hD6 : H6 D = some (.lst us) := s6.rsv D _ hD5 (s5.up _ hR) n5
        have n6 : ∀ m, m < S6.length → w6.i m ≠ D := fun m hm z => by
          by_cases k : m < S5.length
          · rw [s6.ids m k] at z; exact n5 m k z
          · have q := s6.new m (by omega) hm
            rw [z, hD5] at q; cases q
        have hR6 := s6.up _ (s5.up _ hR)
        have m0 : Stp0 w6 S6.length H6 w6 S6.length (upd H6 D (.lst (us ++ [yv]))) := Stp0.mine hR6 hD6
        refine ⟨us, hD6, ?_, w6, S6, ys ++ [yd], us ++ [yv], Stp.mut (((s2.trans sH).trans s5).trans s6) hD, f6.mine hR6 hD6 n6, hR6, n6, upd_same, ?_, hx⟩
        · rw [← hl.len]; exact big_lt hb
        · exact ((((hl.stp sH).stp s5).stp s6).append (.cons ry .nil)).stp0 m0
  · rintro D H hD ⟨w2, S2, ys, us, s2, f2, hR, hn, hu, hl, hx⟩
    rw [show (ns.map A.D.int).drop ns.length = [] by simp] at hx
    have hx := hx.2
    exact hd D w2 S2 H ys us hD s2 f2 hR hn hu hl hx
/-- over the list that te tells, a list of ints of the row -/
def aLcR (ti : AM D) (g : AG) (tt : AM Bool) (te : AM D) (vs : List Nat) : AM D := aBind ti fun d => fun ρ S Q _ => opt (refOf d) fun m => ∃ ns : List Int, lstAt S m = some (ns.map D.int) ∧ lcR m (ns.map D.int) g tt te (wipeD ρ vs) (fun ys S' => Q (.lst ys) S') (ns.map D.int) [] S
section
variable {X : Cx} {n : Cn} {elt tg iter : Expr} {ifs : List Expr} {scope : Scope} {own : List (Str × Nat)} {pos : Pos} {ti : AM D} {g : TG} {gD : AG} {tt : AM Bool} {te : AM D}
theorem j_lcR (hc : X.calm = true) (hN : X.N.Nodup) (gl : GL n.c g gD (own.map (·.2))) (hi : JE X n iter ti) (ok : BlkOk X.N X.env.scope scope own)
    (hg : ∀ (s : Shared) (H : Hp) (C : Addr) (cl : List (Str × Addr)) (fp : List Addr), PG (X.blk s H scope (compEnvC scope cl C X.env) fp) tg g) (ht : ∀ (s : Shared) (H : Hp) (C : Addr) (cl : List (Str × Addr)) (fp : List Addr), PTs (X.blk s H scope (compEnvC scope cl C X.env) fp) ifs (upT n.no tt))
    (he : ∀ (s : Shared) (H : Hp) (C : Addr) (cl : List (Str × Addr)) (fp : List Addr), JE (X.blk s H scope (compEnvC scope cl C X.env) fp) n.no elt te) (hs : ∀ x, foldedSetIterable iter X.env x = pure x := by intro _; rfl) (hK : X.K = n.c.K := by rfl) :
    JE X n (.ListComp elt [⟨tg, iter, ifs, 0⟩] scope pos) (aLcR ti gD tt te (own.map (·.2))) := PE.imp (pe_lc hc hN (kpi_sq n.c.K hi hK) ok hg ht he hs) fun σ H Q h => by
  obtain ⟨w, ρ, S, st, h⟩ := h
  rw [tLc_eq]
  refine (upW.bind (r := Rel n.c) st h).mono ?_
  rintro v H1 ⟨w1, S1, d, st1, s1, r1, Q', E', hf, hq, _⟩
  obtain ⟨m, e1, ns, hl, hx⟩ := opt_some hf
  obtain ⟨rfl, hm, rfl⟩ := refOf_rel e1 r1
  obtain ⟨_, _, us, hu, rl⟩ := lstAt_rel st1.wf hl
  obtain rfl := relL_ints_eq rl
  refine ⟨true, w1.i m, ns.map V.int, rfl, SqL.of hu, fun J wk => ?_⟩
  refine lc_runR gl st1 rfl (by simpa using wk) hx fun D w2 S2 H2 ys us hD s2 f2 hR hn hu hl q => ?_
  obtain ⟨w3, s3, f3, r3⟩ := lc_stay st1.wf hD s2 f2 hR hn hu hl
  exact hq w3 S2 H2 _ _ s3 f3 r3 q
end
/-- items told by a function, all left as it is -/
theorem lcR_map {g : AG} {tt : AM Bool} {te : AM D} {ρ : Ev} {Q : List D → Sto → Prop} {S : Sto} {m : Nat} {ys : List D} (f : D → D) (hm : lstAt S m = some ys) {xs : List D} (hl : xs.length ≤ 1000000)
    (h : ∀ x ∈ xs, ∀ (Y : D → Sto → Prop), Y (f x) S → g x ρ fun ρ2 => tt ρ2 S (fun b S3 => b = true ∧ te ρ2 S3 Y (fun _ _ => False)) fun _ _ => False)
    (mono : ∀ (ρ2 : Ev) (P P' : Bool → Sto → Prop), (∀ b S, P b S → P' b S) → tt ρ2 S P (fun _ _ => False) → tt ρ2 S P' fun _ _ => False)
    (gm : ∀ (x : D) (P P' : Ev → Prop), (∀ r, P r → P' r) → g x ρ P → g x ρ P')
    (q : Q (xs.map f) S) : lcR m ys g tt te ρ Q xs [] S := by
  have key : ∀ (r acc : List D), (∀ x ∈ r, x ∈ xs) → acc.length + r.length ≤ 1000000 → Q (acc ++ r.map f) S → lcR m ys g tt te ρ Q r acc S := by
    intro r
    induction r with
    | nil => intro acc _ _ q; exact ⟨hm, by simpa using q⟩
    | cons x r ih =>
      intro acc hx hb q
      refine ⟨hm, ?_⟩
      have h1 := h x (hx x (by simp)) (fun y S4 => acc.length < big ∧ lcR m ys g tt te ρ Q r (acc ++ [y]) S4) ⟨Nat.lt_of_lt_of_le (m := 1000001) (by simp at hb; omega) (by decide), ih _ (fun y hy => hx y (by simp [hy])) (by simp at hb ⊢; omega) (by simpa using q)⟩
      refine gm x _ _ (fun ρ2 h2 => ?_) h1
      refine mono ρ2 _ _ (fun b S3 h3 => ?_) h2
      obtain ⟨rfl, h3⟩ := h3
      rw [if_pos rfl]
      exact h3
  exact key xs [] (fun _ h => h) (by simpa using hl) (by simpa using q)
end A

set_option Elab.async false
set_option linter.all false
set_option maxRecDepth 100000
set_option maxHeartbeats 4000000
/-! from what the top has written -/
namespace A
open PySem PySem.W PySem.Calls PySem.Spec PyProof.Rows PySem.HandSPX L2
theorem funG_mk {K : Frag} {x qual : Str} {st : Stmt} {f : Addr} {oc : Value} {od an : Option Addr} {osl : Array (Option Value)} {dV kV doc pm cdv ct : Value} (l : K.lookup f = some ⟨oc, od, .func (fnOf x qual (defArgs st) (defBody st) (defScope st) dV kV doc pm an cdv ct), osl⟩)
    (c : codeIn K cdv qual = true) (k : keepIn K (.ref f) = true) : FunG K x qual st f (fnOf x qual (defArgs st) (defBody st) (defScope st) dV kV doc pm an cdv ct) := ⟨⟨oc, od, dV, kV, doc, pm, an, cdv, ct, osl, rfl, l, c⟩, k⟩
/-- all parameters are written though there are defaults -/
theorem binds_dflt {K : Frag} {fd : FuncData} {ps : List Str} {T : Addr} {c : Value} {dd : Option Addr} {its : Array Value} {m : Nat} {sl : Array (Option Value)} {n : Nat} (lT : K.lookup T = some ⟨c, dd, .seq its m, sl⟩) (hn : its.toList.length = n)
    (h : ∀ us (is : List Value), us.length = ps.length → is.length = n → ∃ k, bindArgs fd ⟨us, []⟩ = seqItems? (.ref T) >>= k ∧ k (some is.toArray) = pure (ps.zip us)) : Binds K fd ps [] := by
  intro s us X hlen
  rw [List.append_nil] at hlen ⊢
  obtain ⟨k, e1, e2⟩ := h us its.toList hlen hn
  refine BindsTo.of_looks fun M => ?_
  rw [e1]
  exact looks_items X lT rfl (.of_pure (by simpa using e2))
/-- one keyword behind the positional values, all parameters written -/
theorem kbn_of {K : Frag} {fd : FuncData} {ps ks : List Str} {n : Nat} (h : ∀ (s : Shared) (us ws : List Value), us.length = n → ws.length = ks.length → BindsTo s fd ⟨us, ks.zip ws⟩ (ps.zip (us ++ ws))) : KBn K fd ps n ks (fun us ws => us ++ ws) (fun vs zs => vs ++ zs) :=
  ⟨fun s us ws _ l1 l2 => h s us ws l1 l2, fun r1 r2 => r1.append r2⟩
/-- an error class of two fields over one of one field -/
theorem _root_.L2.XCls2.of {P : Program} {K : Frag} {h : Heap} {mg : Str → Option Value} {nm q1 q f g pn1 pn rn : Str} {C D1 f1 fI cda cc : Addr} {od an cdd cld : Option Addr} {oc doc pm ct ccl cl : Value} {osl ccs csl : Array (Option Value)} {file : Str} {p1 p2 p3 a b c d e q' a1 b1 c1 d1 : Pos} {vs : Array Value} {tf : Tok}
    (wd : PySem.OwnX.Word2 pn rn) (X : K.In h) (G : h.Ns mainGlobals mg) (gC : nsIn K mainGlobals nm = some (some (.ref C))) (base : PySem.OwnX.Txt P K C D1 f1 q1 f pn1)
    (iC : findIn K (.ref C) "__init__" = some (some (.ref fI))) (tI : typeIn K (.ref fI) = some (.type "function"))
    (fn : K.lookup fI = some ⟨oc, od, .func (ksFn "__init__" q (PySem.OwnX.yA pn rn p1 p2 p3) (PySem.OwnX.yB g pn rn a b c d e q' a1 b1 c1 d1) (PySem.OwnX.yS pn rn) .none .none doc pm an (.ref cda) ct cc), osl⟩) (ps : (c.endLine == e.line) = true)
    (cd : codeIn K (.ref cda) q = true) (cv : K.lookup cda = some ⟨ccl, cdd, .fields vs, ccs⟩) (fl : vs[2]? = some (.str file tf)) (fm : ((P.main.file : Str) == file) = true) (ce : K.lookup cc = some ⟨cl, cld, .cell (some (.ref C)), csl⟩)
    (noN : findIn K (.ref C) g = some none) (subC : mroIn K C (.ref C) = some true) (sup : ks_superIn K C C "__init__" = some (some (.ref f1))) (tf1 : typeIn K (.ref f1) = some (.type "function")) (ff1 : fnIn K f1 = true) (nfg : f ≠ g)
    (kC : keepIn K (.ref C) = true) (exC : subIn K (.ref C) (.type "BaseException") = some true) (tyC : typeIn K (.ref C) = some (.type "type")) (ga : findIn K (.ref C) "__getattribute__" = some (some (.builtin "BaseException.__getattribute__")))
    (gg : findIn K (.ref C) "__getattr__" = some none) (hdC : hasDictIn K C = true) (su : nsIn K mainGlobals "super" = some none) : XCls2 P K mg nm C f g :=
  ⟨mg_of X G gC, ⟨D1, f1, fI, q1, q, pn1, pn, rn, ⟨base, ⟨_, _, _, _, _, _, _, _, _, _, _, _, _, _, _, _, _, _, _, _, _, _, ps, fn, cd, ⟨_, _, _, _, _, _, cv, fl, fm⟩, _, _, _, ce⟩, noN, subC, sup, tf1, ff1, wd, nfg⟩, iC, tI⟩, kC, exC, tyC, ga, gg, hdC, mg_none_of X G su⟩
/-- the text of an error class's inherited __init__ -/
theorem txt_of {P : Program} {K : Frag} {q q' f pn nm' : Str} {C D fI N cda cc : Addr} {bs bm : List Value} {sn : List Str} {sub : List Value} {ab : Bool} {col : Option Bool} {dd od an cdd cld : Option Addr} {k0 k1 k2 k3 k5 : Option Value}
    {oc doc pm ct ccl cl : Value} {osl ccs csl : Array (Option Value)} {txt file : Str} {k : Nat} {p1 p2 a b c d e q1 a1 b1 c1 d1 : Pos} {vs : Array Value} {tf : Tok} (wd : PySem.OwnX.Word pn)
    (cls : K.lookup C = some (excClassObj nm' q' C N bs bm true sn sub ab col dd k0 k1 k2 k3 k5 "ValueError.__new__")) (rv : refsVE bm = true)
    (fn : K.lookup fI = some ⟨oc, od, .func (ksFn "__init__" q (PySem.OwnX.xA pn p1 p2) (PySem.OwnX.xB txt f pn k a b c d e q1 a1 b1 c1 d1) (PySem.OwnX.xS pn) .none .none doc pm an (.ref cda) ct cc), osl⟩) (ps : (c.endLine == e.line) = true)
    (cd : codeIn K (.ref cda) q = true) (cv : K.lookup cda = some ⟨ccl, cdd, .fields vs, ccs⟩) (fl : vs[2]? = some (.str file tf)) (fm : ((P.main.file : Str) == file) = true) (ce : K.lookup cc = some ⟨cl, cld, .cell (some (.ref D)), csl⟩)
    (ini : excInitIn K C veTail "ValueError.__new__" = true) (sa : findIn K (.ref C) "__setattr__" = some (some (.builtin "object.__setattr__"))) (noN : findIn K (.ref C) f = some none) (hD : isClsIn K D = true) (subD : mroIn K C (.ref D) = some true)
    (subV : subIn K (.ref C) (.type "ValueError") = some true) (opq : nsIn K cStatics "thirdparty.any" = some none) (sup : ks_superIn K C D "__init__" = some (some (.builtin "ValueError.__init__"))) (top : (P.main.scope.names.lookup ("super" : Str)).isSome = false) : PySem.OwnX.Txt P K C D fI q f pn :=
  ⟨⟨_, _, _, _, _, _, _, _, _, _, _, _, _, _, _, cls, rv⟩, ⟨_, _, _, _, _, _, _, _, _, _, _, _, _, _, _, _, _, _, _, _, _, _, _, ps, fn, cd, ⟨_, _, _, _, _, _, cv, fl, fm⟩, _, _, _, ce⟩, ini, sa, noN, hD, subD, subV, opq, sup, top, wd⟩
theorem _root_.L2.XCls2.xf {P : Program} {K : Frag} {mg : Str → Option Value} {nm f g : Str} {C : Addr} (T : XCls2 P K mg nm C f g) : XfC K C := ⟨T.ga, T.gg, T.exC, T.hdC⟩
theorem _root_.L2.XCls2.noF {P : Program} {K : Frag} {mg : Str → Option Value} {nm f g : Str} {C : Addr} (T : XCls2 P K mg nm C f g) : findIn K (.ref C) f = some none ∧ findIn K (.ref C) g = some none := by
  obtain ⟨_, _, _, _, _, _, _, _, h, _⟩ := T.how
  exact ⟨h.base.noN, h.noN⟩
end A

set_option Elab.async false
set_option linter.all false
set_option maxRecDepth 100000
set_option maxHeartbeats 4000000
/-! own operators, over the layer of trees -/
namespace A
open PySem PySem.Spec PyProof.Rows L2
/-- what may stand on the right of an own comparison -/
def rightOk (S : Sto) (C : Str) (Ts : List String) (e : D) : Prop := (∃ fs, insOf S e C = some fs) ∨ ∃ T, tyN S e = some T ∧ T ∈ Ts
structure RtO (K : PySem.W.Frag) (C : Addr) (Ts : List String) : Prop where
  i : C8.InsC K C
  n : ∀ T ∈ Ts, PySem.W.notFirst K C (.type T) = true
section
variable {c : Cg} {w : Wd} {S : Sto} {H : Hp} {C : Str} {Ts : List String} {sp : ASp}
theorem rightOk_rel {e : D} {y : V} (R : RtO c.K (c.cA C) Ts) (f : Wf c w S H) (h : rightOk S C Ts e) (r : Rel c w S.length H e y) : ∃ t, TyX c.K H y t ∧ PySem.W.notFirst c.K (c.cA C) t = true := by
  rcases h with ⟨fs, h⟩ | ⟨T, h, hT⟩
  · obtain ⟨a, dx, fs', rfl, ha, _, _⟩ := insOf_rel f h r
    exact ⟨.ref (c.cA C), .base (.ins ha R.i.cl R.i.ha R.i.hn R.i.htk R.i.hm), by simp [PySem.W.notFirst]⟩
  · exact ⟨.type T, (tyN_rel f h r).1, R.n T hT⟩
theorem ins_rel {d : D} {x : V} {fs : List (Str × D)} (f : Wf c w S H) (h : insOf S d C = some fs) (r : Rel c w S.length H d x) : Ins H (c.cA C) x := by
  obtain ⟨a, dx, fs', rfl, ha, _, _⟩ := insOf_rel f h r
  exact ⟨a, dx, fs', rfl, ha⟩
def dCmpO (C : Str) (Ts : List String) (sp : ASp) : F2 := fun d e S Q => opt (insOf S d C) fun _ => rightOk S C Ts e ∧ sp [d, e] S Q fun _ _ => False
def dNeO (C : Str) (Ts : List String) (sp : ASp) : F2 := fun d e S Q => opt (insOf S d C) fun _ => rightOk S C Ts e ∧ sp [d, e] S (fun v S' => opt (asB v) fun b => Q (.bl (!b)) S') fun _ _ => False
def dInO (C : Str) (sp : ASp) (neg : Bool) : F2 := fun d e S Q => opt (insOf S e C) fun _ => sp [e, d] S (fun v S' => opt (asB v) fun b => Q (.bl (b != neg)) S') fun _ _ => False
theorem os_cmpO (R : RtO c.K (c.cA C) Ts) : OpS c (dCmpO C Ts sp) (rCmpO c.K (c.cA C) (upSp c sp)) := by
  intro w S H d e x y Q' Q f r1 r2 h k
  obtain ⟨fs, e1, hr, h⟩ := opt_some h
  exact ⟨ins_rel f e1 r1, rightOk_rel R f hr r2, w, S, [d, e], Q', _, f, .cons r1 (.cons r2 .nil), h, k, fun _ _ _ _ _ _ _ _ _ z => z.elim⟩
theorem os_neO (R : RtO c.K (c.cA C) Ts) : OpS c (dNeO C Ts sp) (rNeO c.K (c.cA C) (upSp c sp)) := by
  intro w S H d e x y Q' Q f r1 r2 h k
  obtain ⟨fs, e1, hr, h⟩ := opt_some h
  refine ⟨ins_rel f e1 r1, rightOk_rel R f hr r2, w, S, [d, e], _, _, f, .cons r1 (.cons r2 .nil), h, fun w' S' H' v u s' f' rv q => ?_, fun _ _ _ _ _ _ _ _ _ z => z.elim⟩
  obtain ⟨b, ev, q⟩ := opt_some q
  obtain ⟨rfl, rfl⟩ := asB_rel ev rv
  exact ⟨b, rfl, k w' S' H' _ _ s' f' (.bl _) q⟩
theorem os_inO {neg : Bool} : OpS c (dInO C sp neg) (rInO (c.cA C) (upSp c sp) neg) := by
  intro w S H d e x y Q' Q f r1 r2 h k
  obtain ⟨fs, e1, h⟩ := opt_some h
  refine ⟨ins_rel f e1 r2, w, S, [e, d], _, _, f, .cons r2 (.cons r1 .nil), h, fun w' S' H' v u s' f' rv q => ?_, fun _ _ _ _ _ _ _ _ _ z => z.elim⟩
  obtain ⟨b, ev, q⟩ := opt_some q
  obtain ⟨rfl, rfl⟩ := asB_rel ev rv
  exact ⟨b, rfl, k w' S' H' _ _ s' f' (.bl _) q⟩
end
theorem kop_eqO {X : Cx} {K : PySem.W.Frag} {k n : Nat} {C : Addr} {sp : Sp} (M : Own X.prog X.w K X.mg X.base k C "__eq__" sp) (hr : Room n X.A) (hk : k ≤ n) (hK : X.K = K := by rfl) : OpR X (compareOp .Eq) (rCmpO K C sp) := by
  subst hK
  exact op_cmpO (op := .Eq) (fun _ _ => rfl) M hr hk
theorem kop_leO {X : Cx} {K : PySem.W.Frag} {k n : Nat} {C : Addr} {sp : Sp} (M : Own X.prog X.w K X.mg X.base k C "__le__" sp) (hr : Room n X.A) (hk : k ≤ n) (hK : X.K = K := by rfl) : OpR X (compareOp .LtE) (rCmpO K C sp) := by
  subst hK
  exact op_cmpO (op := .LtE) (fun _ _ => rfl) M hr hk
structure NeO (K : PySem.W.Frag) (C : Addr) : Prop where
  ne : PySem.W.findIn K (.ref C) "__ne__" = some (some (.builtin "object.__ne__"))
  ob : PySem.W.subIn K (.ref C) (.type "object") = some true
theorem kop_neO {X : Cx} {K : PySem.W.Frag} {k n : Nat} {C : Addr} {sp : Sp} (M : Own X.prog X.w K X.mg X.base k C "__eq__" sp) (N : NeO K C) (hr : Room n X.A) (hk : k + 1 ≤ n) (hK : X.K = K := by rfl) : OpR X (compareOp .NotEq) (rNeO K C sp) := by
  subst hK
  exact op_neO M N.ne N.ob hr hk
theorem kop_inO {X : Cx} {K : PySem.W.Frag} {k n : Nat} {C : Addr} {sp : Sp} (M : Own X.prog X.w K X.mg X.base k C "__contains__" sp) (hr : Room n X.A) (hk : k ≤ n) (hK : X.K = K := by rfl) : OpR X (compareOp .In) (rInO C sp false) := by
  subst hK
  exact op_inO M hr hk
theorem kop_notInO {X : Cx} {K : PySem.W.Frag} {k n : Nat} {C : Addr} {sp : Sp} (M : Own X.prog X.w K X.mg X.base k C "__contains__" sp) (hr : Room n X.A) (hk : k ≤ n) (hK : X.K = K := by rfl) : OpR X (compareOp .NotIn) (rInO C sp true) := by
  subst hK
  exact op_notInO M hr hk
/-! truth -/
def aTruO (C : Str) (sp : ASp) (t : AM D) : AM Bool := aBind t fun x => fun _ S Q _ => opt (insOf S x C) fun _ => sp [x] S (fun v S' => opt (asB v) fun b => Q b S') fun _ _ => False
section
variable {X : Cx} {n : Cn} {k r : Nat} {sp : ASp} {C : Str} {e a b : Expr} {ta tb : AM D} {pos : Pos}
theorem jt_truO (M : Own X.prog X.w X.K X.mg X.base k (n.c.cA C) "__bool__" (upSp n.c sp)) (hr : Room r X.A) (hk : k ≤ r) (h : JE X n e ta) (he : ∀ whole, isTrue e X.env whole = (do let v ← whole; standAt e.pos; holding [v] (truthy v)) := by intro _; rfl) : JT X n e (aTruO C sp ta) := by
  refine PT.imp (pt_truthR h (tru_O M hr hk) he) fun σ H Q ⟨w, ρ, S, st, h⟩ => ?_
  refine (upW.bind st h).mono ?_
  rintro x H1 ⟨w1, S1, d, st1, _, r1, h1⟩
  refine h1.op fun Q' hf hq => ?_
  obtain ⟨fs, e1, hf⟩ := opt_some hf
  refine ⟨ins_rel st1.wf e1 r1, w1, S1, [d], _, _, st1.wf, .cons r1 .nil, hf, fun w' S' H' v u s' f' rv q => ?_, fun _ _ _ _ _ _ _ _ _ z => z.elim⟩
  obtain ⟨b, ev, q⟩ := opt_some q
  obtain ⟨rfl, rfl⟩ := asB_rel ev rv
  exact ⟨b, rfl, hq w' S' H' b b s' f' rfl q⟩
/-! bool(x) -/
theorem meets_bool_own {prog : Program} {w : World} (a : Addr) : MeetsIn prog w (Builtin.«bool.__new__» ⟨[.type "bool", .ref a], []⟩) (fun A R s => wpAny (model prog w) A.in1 (truthy (.ref a)) (fun b s' => R (.ok (.ret (.bool b))) s') (fun e s' => R (.error e) s') s) :=
  MeetsIn.of_wp fun A R s h => by
    obtain ⟨hp, g, d, tk, os⟩ := s
    have f1 := F.conv_sub_bool
    repeat (any_goals (first | assumption | (with_reducible refine wpAny_mono h ?_ ?_) | wp_step))
    all_goals first | exact fun _ _ z => z | (intro b s' q; exact wpAny_pure ⟨_, rfl, q⟩)
def rBoolO (C : Addr) (sp : Sp) : List V → Hp → VK → Prop := fun xs H Q => ∃ x, xs = [x] ∧ Ins H C x ∧ sp [x] H (fun v H' => ∃ b : Bool, v = .bl b ∧ Q (.bl b) H') EF
theorem call_boolO {C : Addr} {sp : Sp} (M : Own X.prog X.w X.K X.mg X.base k C "__bool__" sp) (hr : Room r X.A) (hk : k + 2 ≤ r) : CallR X (.type "bool") (rBoolO C sp) := by
  obtain ⟨f, hs, hf, F⟩ := M.ex
  intro pins s σ H xs us Q I rv h
  obtain ⟨x, rfl, hi, q⟩ := h
  cases rv with
  | cons r1 r2 =>
    cases r2
    obtain ⟨a, ox, od, rfl, rfl, J⟩ := hi.inst I r1
    obtain ⟨mm, hF⟩ := I.fr
    have hr2 : Room k X.A.in1.in1 := (hr.mono hk).in1.in1
    refine callType_newIn PySem.F.called_bool PySem.F.newNe_bool (PySem.F.typeCall_bool_1 _) (PySem.F.newCall_bool_1 _) (fun obj => PySem.F.args_object_init_2 obj _) PySem.F.entry_bool_new (meets_bool_own a) ?_
    refine PySem.W.truthy_K hF I.ok.mod.kin J hs hf (wpAny_mono (run_raw (E := EN) F hr2 I.env0.in1.in1 (passN rfl rfl σ) I (.cons (rel_ref a) .nil) q) (fun w s' z => ?_) fun _ _ z => z)
    obtain ⟨z', H', I', rz, b, rfl, qz⟩ := z
    cases (show w = Value.bool b from rz)
    exact ⟨rfl, .bl b, H', I', rfl, qz⟩
def fBoolO (C : Str) (sp : ASp) : FN := fun ds S Q => opt (one1 ds) fun d => opt (insOf S d C) fun _ => sp [d] S (fun v S' => opt (asB v) fun b => Q (.bl b) S') fun _ _ => False
theorem cs_boolO {c : Cg} : CallS c (fBoolO C sp) (rBoolO (c.cA C) (upSp c sp)) := by
  intro w S H ds xs Q' Q f rl h k
  obtain ⟨d, e1, h⟩ := opt_some h
  obtain ⟨x, rfl, rd⟩ := one_rel e1 rl
  obtain ⟨fs, ei, h⟩ := opt_some h
  refine ⟨x, rfl, ins_rel f ei rd, w, S, [d], _, _, f, .cons rd .nil, h, fun w' S' H' v u s' f' rv q => ?_, fun _ _ _ _ _ _ _ _ _ z => z.elim⟩
  obtain ⟨b, ev, q2⟩ := opt_some q
  obtain ⟨rfl, rfl⟩ := asB_rel ev rv
  exact ⟨b, rfl, k w' S' H' _ _ s' f' (.bl b) q2⟩
/-! x op y, ~x by the own def, which may raise -/
def rightB (S : Sto) (C : Str) (y : D) : Prop := (∃ fs, insOf S y C = some fs) ∨ ∃ i, y = .int i
/-- the class at C takes an int on the right -/
structure RtI (K : PySem.W.Frag) (C : Addr) (nm : String) : Prop where
  h1 : (PySem.W.findIn K (.type "int") (PySem.dunder nm)).isSome = true
  h2 : (PySem.W.findIn K (.type "int") (dunderR nm)).isSome = true
  hs : PySem.W.subIn K (.type "int") (.ref C) = some false
  hr : ∃ rc, PySem.W.findIn K (.ref C) (dunderR nm) = some rc ∧ (rc = none ∨ ∃ g : Addr, rc = some (.ref g))
def aBinO (C : Str) (sp : ASp) (ta tb : AM D) : AM D := aBind ta fun x => aBind tb fun y => fun _ S Q E => opt (insOf S x C) fun _ => (∃ fs, insOf S y C = some fs) ∧ sp [x, y] S Q E
def aBinI (C : Str) (sp : ASp) (ta tb : AM D) : AM D := aBind ta fun x => aBind tb fun y => fun _ S Q E => opt (insOf S x C) fun _ => rightB S C y ∧ sp [x, y] S Q E
theorem j_binO {op : Operator} (M : Own X.prog X.w X.K X.mg X.base k (n.c.cA C) (PySem.dunder op.info.2) (upSp n.c sp)) (sf : PySem.W.selfFirst X.K (n.c.cA C) = true) (hr : Room r X.A) (hk : k ≤ r) (hx : ∀ σ, PassesAt (L2N.CX X.prog X.w) X σ (WE n.W σ))
    (ha : JE X n a ta) (hb : JE X n b tb) : JE X n (.BinOp a op b pos) (aBinO C sp ta tb) := by
  refine PE.imp (pe_binO M sf hr hk hx ha hb) fun σ H Q ⟨w, ρ, S, st, h⟩ => ?_
  refine (upW.bind st h).mono ?_
  rintro x H1 ⟨w1, S1, d, st1, _, r1, h1⟩
  refine (upW.bind st1 h1).mono ?_
  rintro y H2 ⟨w2, S2, e, st2, s2, r2, Q2, E2, h2, hq2, he2⟩
  obtain ⟨fs, e1, ⟨fs', e2⟩, h2⟩ := opt_some h2
  exact ⟨ins_rel st2.wf e1 (r1.stp s2), .same (ins_rel st2.wf e2 r2), upSp.of (ρ := ρ) ⟨Q2, E2, h2, hq2, he2⟩ st2.wf (.cons (r1.stp s2) (.cons r2 .nil))⟩
theorem j_binI {op : Operator} (M : Own X.prog X.w X.K X.mg X.base k (n.c.cA C) (PySem.dunder op.info.2) (upSp n.c sp)) (sf : PySem.W.selfFirst X.K (n.c.cA C) = true) (ri : RtI X.K (n.c.cA C) op.info.2) (hr : Room r X.A) (hk : k ≤ r) (hx : ∀ σ, PassesAt (L2N.CX X.prog X.w) X σ (WE n.W σ))
    (ha : JE X n a ta) (hb : JE X n b tb) : JE X n (.BinOp a op b pos) (aBinI C sp ta tb) := by
  refine PE.imp (pe_binO M sf hr hk hx ha hb) fun σ H Q ⟨w, ρ, S, st, h⟩ => ?_
  refine (upW.bind st h).mono ?_
  rintro x H1 ⟨w1, S1, d, st1, _, r1, h1⟩
  refine (upW.bind st1 h1).mono ?_
  rintro y H2 ⟨w2, S2, e, st2, s2, r2, Q2, E2, h2, hq2, he2⟩
  obtain ⟨fs, e1, hR, h2⟩ := opt_some h2
  have fin := upSp.of (ρ := ρ) ⟨Q2, E2, h2, hq2, he2⟩ st2.wf (.cons (r1.stp s2) (.cons r2 .nil))
  rcases hR with ⟨fs', e2⟩ | ⟨i, rfl⟩
  · exact ⟨ins_rel st2.wf e1 (r1.stp s2), .same (ins_rel st2.wf e2 r2), fin⟩
  · cases r2
    exact ⟨ins_rel st2.wf e1 (r1.stp s2), .int i ri.h1 ri.h2 ri.hs ri.hr, fin⟩
def aInvO (C : Str) (sp : ASp) (ta : AM D) : AM D := aBind ta fun x => fun _ S Q E => opt (insOf S x C) fun _ => sp [x] S Q E
theorem j_invO (M : Own X.prog X.w X.K X.mg X.base k (n.c.cA C) "__invert__" (upSp n.c sp)) (hr : Room r X.A) (hk : k ≤ r) (hx : ∀ σ, PassesAt (L2N.CX X.prog X.w) X σ (WE n.W σ)) (ha : JE X n a ta) : JE X n (.UnaryOp .Invert a pos) (aInvO C sp ta) := by
  refine PE.imp (pe_invO M hr hk hx ha) fun σ H Q ⟨w, ρ, S, st, h⟩ => ?_
  refine (upW.bind st h).mono ?_
  rintro x H1 ⟨w1, S1, d, st1, _, r1, Q2, E2, h2, hq2, he2⟩
  obtain ⟨fs, e1, h2⟩ := opt_some h2
  exact ⟨ins_rel st1.wf e1 r1, upSp.of (ρ := ρ) ⟨Q2, E2, h2, hq2, he2⟩ st1.wf (.cons r1 .nil)⟩
end
end A

set_option Elab.async false
set_option linter.all false
set_option maxRecDepth 100000
set_option maxHeartbeats 4000000
/-! d.get(k), defs called with keywords, defaults -/
namespace A
open PySem PySem.Spec PyProof.Rows L2
section
variable {X : Cx} {n : Cn} {k r : Nat} {sp : ASp} {C x : Str} {e o : Expr} {es : List Expr} {ta tb : AM D} {t tk : AM (List D)} {pos apos p : Pos}
theorem valV_none {k : Str} : ∀ {fs : List (Str × D)} {kvs : List (Key × V)}, kvs.map (·.1) = fs.map (fun p => Sum.inr p.1) → fs.lookup k = none → valV kvs (Sum.inr k) = none
  | [], [], _, _ => rfl
  | [], _ :: _, h, _ => by simp at h
  | _ :: _, [], h, _ => by simp at h
  | (a, x) :: fs, (b, y) :: kvs, h, hd => by
    simp only [List.map_cons, List.cons.injEq] at h
    obtain ⟨rfl, h⟩ := h
    simp only [List.lookup_cons] at hd
    by_cases z : a = k
    · subst z
      simp at hd
    · have zb : (k == a) = false := by simpa using fun q => z q.symm
      rw [zb] at hd
      have h1 := valV_none h hd
      unfold valV at h1 ⊢
      rw [List.find?_cons_of_neg (by simpa using z)]
      exact h1
def aDGetM (ta tb : AM D) : AM D := aBind ta fun d => fun ρ S Q E => opt (refOf d) fun m => opt (dctAt S m) fun _ => aBind tb (fun i => fun _ S Q _ => opt (dctAt S m) fun kvs => opt (asS i) fun k => Q ((kvs.lookup k).getD .non) S) ρ S Q E
theorem j_dgetM (hu : X.A.units + 1 < cLine) (ho : JE X n o ta) (hi : JE X n e tb) (m : M1 X o "get" apos e pos) : JE X n (.Call (.Attribute o "get" apos) [e] [] pos) (aDGetM ta tb) := PE.imp (pe_dget1 hu ho hi m) fun σ H Q ⟨w, ρ, S, st, h⟩ => by
  refine (upW.bind st h).mono ?_
  rintro x H1 ⟨w1, S1, d, st1, _, r1, Q', E', h1, hq, he⟩
  obtain ⟨m, e1, h1a⟩ := opt_some h1
  obtain ⟨kvs0, e0, h1b⟩ := opt_some h1a
  clear h1 h1a
  obtain ⟨rfl, hm, rfl⟩ := refOf_rel e1 r1
  obtain ⟨_, _, kvs0', hu0, hn0, hl0⟩ := dctAt_rel st1.wf e0
  refine ⟨_, rfl, .inl ⟨_, .inl hu0⟩, ?_⟩
  have h1 : upW n.c n.W (Rel n.c) (aBind tb fun i => fun _ S Q _ => opt (dctAt S m) fun kvs => opt (asS i) fun k => Q ((kvs.lookup k).getD .non) S) w1 ρ S1 σ H1 Q := ⟨Q', E', h1b, hq, he⟩
  refine (upW.bind st1 h1).mono ?_
  rintro y H2 ⟨w2, S2, i, st2, s2, r2, h2⟩
  refine h2.op fun Q' hf hq => ?_
  obtain ⟨kvs, e2, hf⟩ := opt_some hf
  obtain ⟨k, e3, q⟩ := opt_some hf
  obtain ⟨_, rfl⟩ := asS_rel e3 r2
  obtain ⟨_, _, kvs', hu', hn, hl⟩ := dctAt_rel st2.wf e2
  rw [s2.ids m hm] at hu'
  have g := DGet.k (k := Sum.inr k) hu'
  cases ev : kvs.lookup k with
  | none =>
    rw [valV_none hn ev] at g
    rw [ev] at q
    exact ⟨none, g, fin0 st2.wf hq .non q⟩
  | some d =>
    obtain ⟨u, hu2, ru⟩ := valV_rel hn hl d ev
    rw [hu2] at g
    rw [ev] at q
    exact ⟨some u, g, fin0 st2.wf hq ru q⟩
/-! ### f(e, .., k = v, ..) -/
structure FncK (P : Program) (w : World) (K : PySem.W.Frag) (mg : Str → Option Value) (base : Heap) (k : Nat) (x : Str) (na : Nat) (ks : List Str) (sp : Sp) : Prop where
  ex : ∃ f fd ps g, mg x = some (.ref f) ∧ PySem.W.keepIn K (.ref f) = true ∧ FnOk P w K mg base (L2N.CX P w) k f fd ps sp ∧ KBn K fd ps na ks g (fun vs zs => vs ++ zs)
def aCallK (na nk : Nat) (sp : ASp) (t tk : AM (List D)) : AM D := aBind t fun ds => aBind tk fun zs => fun _ S Q E => ds.length = na ∧ zs.length = nk ∧ sp (ds ++ zs) S Q E
def tCallK (na nk : Nat) (sp : Sp) (E : L2.St → XK) (t tk : TA) : TE := fun σ H Q => t σ H fun vs H1 => tk σ H1 fun zs H2 => vs.length = na ∧ zs.length = nk ∧ sp (vs ++ zs) H2 Q (E σ)
theorem pe_fcK {na : Nat} {ks : List Str} {sp : Sp} {E : L2.St → XK} {t tk : TA} {kws : List Keyword} (c : FncK X.prog X.w X.K X.mg X.base k x na ks sp) (hr : Room r X.A) (hk : k ≤ r) (hg : Gl X x) (hx : ∀ σ, PassesAt (L2N.CX X.prog X.w) X σ (E σ))
    (ha : PA X (e :: es) t) (hkw : PK X kws tk) (hall : (backToKw pos (keywordEach kws X.env)).all (·.1.isSome) = true := by rfl) (hks : (backToKw pos (keywordEach kws X.env)).filterMap (·.1) = ks := by rfl)
    (hdb : (x == ("__debug__" : Str)) = false := by decide) (he : starEach (e :: es) X.env = (false, eval e X.env) :: starEach es X.env := by rfl)
    (hpl : ((backTo pos (starEach (e :: es) X.env)).any (·.1) || (backToKw pos (keywordEach kws X.env)).any (·.1.isNone)) = false := by rfl) :
    PE X (.Call (.Name x p) (e :: es) kws pos) (tCallK na ks.length sp E t tk) := by
  obtain ⟨f, fd, ps, g, hm, kp, F, hb⟩ := c.ex
  refine ⟨fun pins s σ H Q I h => wpAny_Call_Name_kw (ld_glob I hg hm ?_ hdb)⟩
  refine PySem.W.callWith_KW (h₀ := X.base) I.ok.mod.kin kp hall (thn (ha.run pos pins s σ H _ I h) fun us s1 ⟨vs, H1, I1, r1, q⟩ => ?_) hpl he
  refine thn (hkw.run pos pins s1 σ H1 _ I1 q) fun ws s2 ⟨zs, H2, I2, rz, l1, l2, q2⟩ => ⟨I2.kIn, ?_⟩
  rw [hks]
  have rr := hb.rel r1 rz
  refine wpAny_call (codeAny_mono (F.run X.A X.stack s2 H2 ⟨us, ks.zip ws⟩ _ _ Q (E σ) (hr.mono hk) I2.env0 (hb.to s2 us ws I2.kIn (r1.length.symm.trans l1) (rz.length.symm.trans l2)) rr q2) fun res s' hq => ?_)
  rcases res with e | fl
  · exact hx σ pins H2 s2 e s' I2 hq
  rcases fl with _ | _ | _ | u
  · exact hq.elim
  · exact hq.elim
  · exact hq.elim
  · exact I2.after hq
theorem j_fcK {na : Nat} {ks : List Str} {kws : List Keyword} (c : FncK X.prog X.w X.K X.mg X.base k x na ks (upSp n.c sp)) (hr : Room r X.A) (hk : k ≤ r) (hg : Gl X x) (hx : ∀ σ, PassesAt (L2N.CX X.prog X.w) X σ (WE n.W σ))
    (ha : JA X n (e :: es) t) (hkw : JK X n kws tk) (hall : (backToKw pos (keywordEach kws X.env)).all (·.1.isSome) = true := by rfl) (hks : (backToKw pos (keywordEach kws X.env)).filterMap (·.1) = ks := by rfl)
    (hdb : (x == ("__debug__" : Str)) = false := by decide) (he : starEach (e :: es) X.env = (false, eval e X.env) :: starEach es X.env := by rfl)
    (hpl : ((backTo pos (starEach (e :: es) X.env)).any (·.1) || (backToKw pos (keywordEach kws X.env)).any (·.1.isNone)) = false := by rfl) :
    JE X n (.Call (.Name x p) (e :: es) kws pos) (aCallK na ks.length sp t tk) := by
  refine PE.imp (pe_fcK c hr hk hg hx ha hkw hall hks hdb he hpl) fun σ H Q h => ?_
  obtain ⟨w, ρ, S, st, h⟩ := h
  refine (upW.bind st h).mono ?_
  rintro vs H1 ⟨w1, S1, ds, st1, _, r1, h1⟩
  refine (upW.bind st1 h1).mono ?_
  rintro zs H2 ⟨w2, S2, es, st2, s2, r2, Q2, E2, ⟨l1, l2, h2⟩, hq2, he2⟩
  exact ⟨r1.len.symm.trans l1, r2.len.symm.trans l2, upSp.of (ρ := ρ) ⟨Q2, E2, h2, hq2, he2⟩ st2.wf ((r1.stp s2).append r2)⟩
end
/-! ### defaults -/
/-- the same promise, the last values left to their defaults -/
def dflSp (l : List D) (sp : ASp) : ASp := fun ds S Q E => sp (ds ++ l) S Q E
section
variable {P : Program} {w : World} {K : PySem.W.Frag} {mg : Str → Option Value} {base : Heap} {k : Nat} {f : Addr} {fd : FuncData} {ps : List Str} {x : Str}
theorem fnR_dfl {c : Cg} {sp : ASp} {l : List D} {dvs : List V} {dus : List Value} (F : FnOk P w K mg base (L2N.CX P w) k f fd ps (upSp c sp)) (hb : Binds K fd ps dus) (hv : Vals dvs dus) (hl : ∀ w N H, RelL c w N H l dvs) : FnR P w K mg base (L2N.CX P w) k f (upSp c (dflSp l sp)) :=
  (FnOk.raw (ds := dus) (dvs := dvs) F hb hv).imp fun vs H Q E h => by
    obtain ⟨w', S, ds, Q', E', f', r, ht, hq, he⟩ := h
    exact ⟨w', S, ds ++ l, Q', E', f', r.append (hl _ _ _), ht, hq, he⟩
end
end A

set_option Elab.async false
set_option linter.all false
set_option maxRecDepth 100000
set_option maxHeartbeats 4000000
/-! what a def lays for itself alone is left behind -/
namespace A
open PySem PySem.Spec PyProof.Rows L2
/-- the same promise: all that stood at the call stands as it did, what is given back is frozen -/
def pureSp (sp : ASp) : ASp := fun ds S Q E => sp ds S (fun d S' => ∃ T r, S' = S ++ T ∧ frz S' S.length d = some r ∧ Q r S) (fun x S' => ∃ T, S' = S ++ T ∧ cls S.length x.vs = true ∧ E x S)
theorem wf_cl {c : Cg} {w : Wd} {S : Sto} {H : Hp} (f : Wf c w S H) : ∀ o ∈ S, clO S.length o = true := fun o ho => by
  obtain ⟨n, e⟩ := List.getElem?_of_mem ho
  exact RelO.clO (f.obj n o e)
theorem pureSp_up {c : Cg} {sp : ASp} (vs : List V) (H : Hp) (Q : VK) (E : XK) (h : upSp c (pureSp sp) vs H Q E) : upSp c sp vs H Q E := by
  obtain ⟨w, S, ds, Q', E', f, r, ht, hq, he⟩ := h
  have k := wf_cl f
  refine ⟨w, S, ds, _, _, f, r, ht, ?_, ?_⟩
  · rintro w' S' H' d v s f' rd ⟨T, y, rfl, hz, q⟩
    have fc := f.cut s f' rfl k
    exact hq w S H' y v s.cut fc (frz_rel f s f' hz rd) q
  · rintro w' S' H' x cl d s f' rx ⟨T, rfl, kx, q⟩
    have fc := f.cut s f' rfl k
    exact he w S H' x cl d s.cut fc (rx.cut s.up s.ids kx) q
theorem _root_.L2.Fnc.pure {P : Program} {w : World} {K : PySem.W.Frag} {mg : Str → Option Value} {base : Heap} {k : Nat} {x : Str} {c : Cg} {sp sp' : ASp} (F : Fnc P w K mg base k x (upSp c sp)) (h : ∀ ds S Q E, sp' ds S Q E → pureSp sp ds S Q E) : Fnc P w K mg base k x (upSp c sp') :=
  F.imp fun vs H Q E z => pureSp_up vs H Q E (by
    obtain ⟨w', S, ds, Q', E', f, r, ht, hq, he⟩ := z
    exact ⟨w', S, ds, Q', E', f, r, h ds S Q' E' ht, hq, he⟩)
/-! data names nothing of the row -/
mutual
theorem cl_pd {N : Nat} : ∀ {d : D}, isPd d = true → cl N d = true
  | .non, _ => rfl
  | .bl _, _ => rfl
  | .int _, _ => rfl
  | .str _, _ => rfl
  | .tup xs, h => by simp only [cl]; exact cls_pd (by simpa [isPd] using h)
  | .lst xs, h => by simp only [cl]; exact cls_pd (by simpa [isPd] using h)
  | .obj _ _ _, h => by simp [isPd] at h
  | .ref _, h => by simp [isPd] at h
  | .ty _, h => by simp [isPd] at h
  | .cl _, h => by simp [isPd] at h
  | .adr _, h => by simp [isPd] at h
  | .scr _, h => by simp [isPd] at h
theorem cls_pd {N : Nat} : ∀ {ds : List D}, isPds ds = true → cls N ds = true
  | [], _ => rfl
  | d :: ds, h => by
    have h' : isPd d = true ∧ isPds ds = true := by simpa [isPds] using h
    simp [cls, cl_pd h'.1, cls_pd h'.2]
end
/-- a new list of data, given back -/
theorem frz_new {S T : Sto} {n : Nat} {xs : List D} (hn : S.length ≤ n) (h : (S ++ T)[n]? = some (.lst xs)) (hx : isPds xs = true) : frz (S ++ T) S.length (.ref n) = some (.lst xs) := by
  simp only [frz, h, cls_pd hx, if_true]
  rw [if_neg (by omega)]
end A

set_option Elab.async false
set_option linter.all false
set_option maxRecDepth 100000
set_option maxHeartbeats 4000000
/-! x in a list or tuple of data of any depth -/
namespace A
open PySem PySem.Spec PyProof.Rows L2
def rInDA (K : PySem.W.Frag) (neg : Bool) : R2 := fun x y H Q => ∃ d ds, Dp K H x d ∧ SeqAt.shaped d = true ∧ ((Dp K H y (.list ds) ∧ SeqAt.shaped (.list ds) = true) ∨ (Dp K H y (.tuple ds) ∧ SeqAt.shaped (.tuple ds) = true)) ∧ Q (.bl ((ds.any fun z => PyData.eqv z d) != neg)) H
section
variable {X : Cx}
theorem op_inDA (K : PySem.W.Frag) (hu : X.A.units + 65 < cLine) (hK : X.K = K := by rfl) : OpR X (compareOp .In) (rInDA K false) := by
  subst hK
  intro pins s σ H x y v u Q I rx ry h
  obtain ⟨d, ds, hd, sd, hy, q⟩ := h
  rw [bxf] at q
  obtain ⟨as, r1⟩ := Dp.reads I d x v hd rx
  rcases hy with ⟨he, se⟩ | ⟨he, se⟩
  · obtain ⟨bs, r2⟩ := Dp.reads I (.list ds) y u he ry
    exact SeqAt.in_list_reads r2 r1 (SeqAt.canLay_of_shaped se) (SeqAt.canLay_of_shaped sd) (room_in_shaped sd hu) ⟨.bl _, H, I, rfl, q⟩
  · obtain ⟨bs, r2⟩ := Dp.reads I (.tuple ds) y u he ry
    exact SeqAt.in_tuple_reads r2 r1 (SeqAt.canLay_of_shaped se) (SeqAt.canLay_of_shaped sd) (room_in_shaped sd hu) ⟨.bl _, H, I, rfl, q⟩
theorem op_notInDA (K : PySem.W.Frag) (hu : X.A.units + 65 < cLine) (hK : X.K = K := by rfl) : OpR X (compareOp .NotIn) (rInDA K true) := by
  subst hK
  intro pins s σ H x y v u Q I rx ry h
  obtain ⟨d, ds, hd, sd, hy, q⟩ := h
  rw [bxt] at q
  obtain ⟨as, r1⟩ := Dp.reads I d x v hd rx
  rcases hy with ⟨he, se⟩ | ⟨he, se⟩
  · obtain ⟨bs, r2⟩ := Dp.reads I (.list ds) y u he ry
    exact SeqAt.notIn_list_reads r2 r1 (SeqAt.canLay_of_shaped se) (SeqAt.canLay_of_shaped sd) (room_in_shaped sd hu) ⟨.bl _, H, I, rfl, q⟩
  · obtain ⟨bs, r2⟩ := Dp.reads I (.tuple ds) y u he ry
    exact SeqAt.notIn_tuple_reads r2 r1 (SeqAt.canLay_of_shaped se) (SeqAt.canLay_of_shaped sd) (room_in_shaped sd hu) ⟨.bl _, H, I, rfl, q⟩
end
/-- what stands in a frozen list, a list of the row, a tuple -/
def dsv (S : Sto) : D → Option (List D)
  | .tup xs => some xs
  | .lst xs => some xs
  | .ref n => match S[n]? with
    | some (.lst xs) => some xs
    | _ => none
  | _ => none
def dInD (neg : Bool) : F2 := fun d e S Q => opt (dsv S e) fun xs => (dat (rd S d) = true ∧ dat (rd S e) = true) ∧ Q (.bl ((xs.any fun y => eqD y (rd S d)) != neg)) S
theorem any_pds {p : D} : ∀ {xs : List D}, ((pds xs).any fun z => PyData.eqv z (pd p)) = xs.any fun y => eqD y p
  | [] => rfl
  | x :: r => by simp only [pds, List.any_cons, any_pds (xs := r)]; rfl
theorem os_inD {c : Cg} {neg : Bool} : OpS c (dInD neg) (rInDA c.K neg) := by
  intro w S H d e x y Q' Q f r1 r2 h k
  obtain ⟨xs, e1, ⟨h1, h2⟩, q⟩ := opt_some h
  obtain ⟨p1, s1⟩ := dat_iff h1
  obtain ⟨p2, s2⟩ := dat_iff h2
  have hy := rd_dp f r2 p2
  have hs : rd S e = .lst xs ∨ rd S e = .tup xs := by
    cases e with
    | tup ys => simp [dsv] at e1; subst e1; exact .inr rfl
    | lst ys => simp [dsv] at e1; subst e1; exact .inl rfl
    | ref n =>
      simp only [dsv] at e1
      cases en : S[n]? with
      | none => rw [en] at e1; cases e1
      | some o =>
        rw [en] at e1
        cases o with
        | lst ys => simp at e1; subst e1; exact .inl (by simp [rd, en])
        | ins C fs => cases e1
        | dct kvs => cases e1
    | _ => simp [dsv] at e1
  refine ⟨pd (rd S d), pds xs, rd_dp f r1 p1, s1, ?_, ?_⟩
  · rcases hs with hs | hs
    · rw [hs] at hy s2
      exact .inl ⟨hy, s2⟩
    · rw [hs] at hy s2
      exact .inr ⟨hy, s2⟩
  · rw [any_pds]
    exact fin0 f k (.bl _) q
end A

set_option Elab.async false
set_option linter.all false
set_option maxRecDepth 100000
set_option maxHeartbeats 4000000
/-! defs with a star parameter; comprehensions over a zip of a tuple and a list of the row; constants that are data -/
namespace A
open PySem PySem.Spec PyProof.Rows L2
theorem cxUpN {P : Program} {w : World} : StX.CXUp (L2N.CX P w) := by
  rintro outer s H s2 H2 E e s' un kp ho ⟨a, B, H', cls, d, ea, fl, hok, ub, na, os, ag, he⟩
  refine ⟨a, B, H', cls, d, ea, fl, hok, ⟨fun b o q n hb => ub.keep b o (kp b o q) (un.free b o q n (by simp)) hb, fun b o q hb => ub.slot b o (kp b o q) hb, fun b o q n => ub.free b o (kp b o q) (un.free b o q n (by simp)),
    fun b o q hb => ub.there b o (kp b o q) hb, fun b xs q => ub.tups b xs (un.tups b xs q), fun b o xs q => ub.frzs b o xs (un.frzs b o xs q), fun b ps q => ?_⟩, na, os.trans ho, ag, he⟩
  obtain ⟨m1, e1⟩ := un.tbls b ps q
  obtain ⟨m2, e2⟩ := ub.tbls b _ e1
  exact ⟨m1 ++ m2, by rw [e2, Array.append_assoc]⟩
theorem bindStar1 {fd : FuncData} {a v : Arg} (h1 : fd.params.posonlyargs = []) (h2 : fd.params.args = [a]) (h3 : fd.params.vararg = some v) (h4 : fd.params.kwonlyargs = []) (h5 : fd.params.kwarg = none) (h6 : fd.defaults = .none) :
    ∀ (us rest : List Value), us.length = 1 → bindArgs fd ⟨us ++ rest, []⟩ = (newTuple rest >>= fun t => pure ([a.arg].zip us ++ [(v.arg, t)]))
  | [x], rest, _ => by
    unfold bindArgs
    simp only [h1, h2, h3, h4, h5, h6]
    simp [seqItems?]
    rfl
/-- what is left over is a tuple -/
def starSp (np : Nat) (sp : ASp) : ASp := fun ds S Q E => ∃ ws rest, ds = ws ++ rest ∧ ws.length = np ∧ rest.length ≤ big ∧ sp (ws ++ [.tup rest]) S Q E
theorem starSp_up {c : Cg} {sp : ASp} {np : Nat} {vs : List V} {H : Hp} {Q : VK} {E : XK} (h : upSp c (starSp np sp) vs H Q E) :
    ∃ us rest, vs = us ++ rest ∧ us.length = np ∧ rest.length ≤ sizeLine ∧ ∀ p, H p = Option.none → upSp c sp (us ++ [V.ref p]) (upd H p (.tup rest)) Q E := by
  obtain ⟨w, S, ds, Q', E', f, r, ⟨ws, rs, rfl, hl, hz, h⟩, hq, he⟩ := h
  have r1 := r.take ws.length
  have r2 := r.drop ws.length
  rw [List.take_left] at r1
  rw [List.drop_left] at r2
  refine ⟨vs.take ws.length, vs.drop ws.length, (List.take_append_drop _ _).symm, by rw [← r1.len]; exact hl, by rw [← r2.len]; exact big_le hz, fun p hp => ?_⟩
  have s := Stp.alloc (w := w) (N := S.length) hp (.tup (vs.drop ws.length))
  refine ⟨w, S, ws ++ [.tup rs], Q', E', f.alloc hp _, (r1.stp s).append (.cons (.tup (.inl (.inl upd_same)) (r2.stp s)) .nil), h, fun w' S' H' a b t => hq w' S' H' a b (s.trans t), fun w' S' H' x cl d t => he w' S' H' x cl d (s.trans t)⟩
section
variable {P : Program} {w : World} {K : PySem.W.Frag} {cA : Str → Addr} {mg : Str → Option Value} {base : Heap}
theorem def_star {x qual pv : Str} {st : Stmt} {f : Addr} {fd : FuncData} {N ps : List Str} {k : Nat} {sp : ASp} {t : AS} (F : FunG K x qual st f fd) (Sc : FnScope N (ps ++ [pv]) (defScope st))
    (hbn : ∀ (us rest : List Value), us.length = ps.length → bindArgs fd ⟨us ++ rest, []⟩ = (newTuple rest >>= fun t => pure (ps.zip us ++ [(pv, t)])))
    (hb : ∀ (cdv : Value) (A : Around) (outer : List Env) (s : Shared) (H : Hp) (E : XK), Room k (A.deeper (envOfC qual (defScope st) s.heap.objs.size f cdv)) →
      JSs (cxOf (L2N.CX P w) P w K mg base N qual (defScope st) f cdv A outer s H E) ⟨⟨K, cA⟩, none, fun cls d _ H => E cls d H⟩ (defBody st) t)
    (hv : ∀ ds S Q E, sp ds S Q E → t (defEnds Q E) (startD N ds) S) : FnR P w K mg base (L2N.CX P w) (k + 1) f (upSp ⟨K, cA⟩ (starSp ps.length sp)) := by
  obtain ⟨oc, od, dV, kV, doc, pm, an, cdv, ct, osl, rfl, lk, hcd⟩ := F.ex
  refine (StX.fn_star (sp := upSp ⟨K, cA⟩ sp) lk hcd Sc cxUpN hbn (fun A outer s H vs Q E hr h => ?_)).imp fun vs H Q E h => starSp_up h
  obtain ⟨w, S, ds, Q', E', f, r, ht, hq, he⟩ := h
  exact ⟨_, hb cdv A outer s H E hr, w, _, S, defEnds Q' E', ⟨f, relE_start r, trivial⟩, hv ds S Q' E' ht,
    ⟨fun w' ρ' S' σ' H' s' st' q => hq w' S' H' .non .non s' st'.wf .non q, hq, fun _ _ _ _ _ _ _ z => z, fun _ _ _ _ _ _ _ z => z, fun w' ρ' S' σ' H' x cls d s' st' rx q => he w' S' H' x cls d s' st'.wf rx q⟩⟩
end
/-! ### comprehensions while something holds of the row -/
def lcI (Iv : Sto → Prop) (g : AG) (tt : AM Bool) (te : AM D) (ρ : Ev) (Q : List D → Sto → Prop) : List D → List D → Sto → Prop
  | [], acc, S => Iv S ∧ Q acc S
  | x :: r, acc, S => Iv S ∧ g x ρ fun ρ2 => tt ρ2 S (fun b S3 => if b = true then te ρ2 S3 (fun y S4 => acc.length < big ∧ lcI Iv g tt te ρ Q r (acc ++ [y]) S4) (fun _ _ => False) else lcI Iv g tt te ρ Q r acc S3) fun _ _ => False
theorem lcI.iv {Iv : Sto → Prop} {g : AG} {tt : AM Bool} {te : AM D} {ρ : Ev} {Q : List D → Sto → Prop} : ∀ {r acc : List D} {S : Sto}, lcI Iv g tt te ρ Q r acc S → Iv S
  | [], _, _, h => h.1
  | _ :: _, _, _, h => h.1
def WalkI (c : Cg) (w : Wd) (N : Nat) (H : Hp) (Iv : Sto → Prop) (J : It) (xs : List D) : Prop := ∃ (G : Hp → Prop) (Y : Nat → Hp → V → Hp → Prop), Walk J xs.length G Y ∧
  (∀ w2 (S2 : Sto) H2, Stp w N H w2 S2.length H2 → Wf c w2 S2 H2 → Iv S2 → G H2) ∧
  ∀ w2 (S2 : Sto) H2 i x H3, Stp w N H w2 S2.length H2 → Wf c w2 S2 H2 → Iv S2 → i < xs.length → Y i H2 x H3 → Same H2 H3 ∧ ∃ d, xs[i]? = some d ∧ Rel c w2 S2.length H3 d x
theorem lc_runI {n : Cn} {J : It} {Iv : Sto → Prop} {xs : List D} {g : TG} {gD : AG} {tt : AM Bool} {te : AM D} {vs : List Nat} {w : Wd} {ρ : Ev} {S : Sto} {σ : L2.St} {H1 : Hp} {Qd : List D → Sto → Prop} {Q : VK} (gl : GL n.c g gD vs) (st : Sta n.c n.g w ρ S σ H1)
    (wk : WalkI n.c w S.length H1 Iv J xs) (h : lcI Iv gD tt te (wipeD ρ vs) Qd xs [] S)
    (hd : ∀ D w2 S2 H2 ys us, H1 D = none → Stp w S.length H1 w2 S2.length H2 → Wf n.c w2 S2 H2 → w2.R D → (∀ m, m < S2.length → w2.i m ≠ D) → H2 D = some (.lst us) → RelL n.c w2 S2.length H2 ys us → Qd ys S2 → Q (.ref D) H2) :
    LcB J g (upT n.no tt) (upE n.no te) vs σ Q H1 := by
  obtain ⟨G, Y, wlk, hG, hY⟩ := wk
  refine lcB wlk (fun D i H => ∃ w2 S2 ys us, Stp w S.length H1 w2 S2.length H ∧ Wf n.c w2 S2 H ∧ w2.R D ∧ (∀ m, m < S2.length → w2.i m ≠ D) ∧ H D = some (.lst us) ∧ RelL n.c w2 S2.length H ys us ∧ lcI Iv gD tt te (wipeD ρ vs) Qd (xs.drop i) ys S2) ?_ ?_ ?_ ?_
  · intro D hD
    refine ⟨w.hold D, S, [], [], Stp.hold hD _, st.wf.hold hD _, .inr rfl, fun m hm z => ?_, upd_same, .nil, h⟩
    obtain ⟨ho, e, _⟩ := RelO.isAt (st.wf.obj m S[m] (by simp))
    have z : w.i m = D := z
    rw [z, hD] at e; cases e
  · rintro D i H hi ⟨w2, S2, ys, us, s2, f2, _, _, _, _, hx⟩
    exact hG w2 _ H s2 f2 hx.iv
  · rintro D i x H H' hD hi ⟨w2, S2, ys, us, s2, f2, hR, hn, hu, hl, hx⟩ y
    obtain ⟨sm, d, hd', rd⟩ := hY w2 _ H i x H' s2 f2 hx.iv hi y
    have sH : Stp w2 S2.length H w2 S2.length H' := Stp.same sm
    have f3 := f2.same sm
    have hdr : xs.drop i = d :: xs.drop (i + 1) := by
      rw [List.drop_eq_getElem?_toList_append, hd']; rfl
    rw [hdr] at hx
    have hx := hx.2
    have st3 : Sta n.c n.g w2 (wipeD ρ vs) S2 (wipe σ vs) H' := ⟨f3, (st.ev.stp (s2.trans sH)).wipe vs, st.gx.stp (s2.trans sH)⟩
    refine gl n.g w2 (wipeD ρ vs) S2 (wipe σ vs) H' d x _ _ st3 rd hx fun ρ2 σ2 st4 hw hx => ⟨?_, ?_⟩
    · rw [hw]
      exact wipe_twice σ vs
    · refine ⟨w2, ρ2, S2, st4, _, _, hx, ?_, fun _ _ _ _ _ _ _ _ _ z => z.elim⟩
      rintro w5 S5 H5 b b' s5 f5 rfl hx
      have hD5 : H5 D = some (.lst us) := s5.rsv D _ (sm _ _ hu) hR hn
      have n5 : ∀ m, m < S5.length → w5.i m ≠ D := fun m hm z => by
        by_cases k : m < S2.length
        · rw [s5.ids m k] at z; exact hn m k z
        · have q := s5.new m (by omega) hm
          rw [z, sm _ _ hu] at q; cases q
      cases b with
      | false =>
        rw [if_neg Bool.false_ne_true] at hx ⊢
        exact ⟨w5, S5, ys, us, (s2.trans sH).trans s5, f5, s5.up _ hR, n5, hD5, (hl.stp sH).stp s5, hx⟩
      | true =>
        rw [if_pos rfl] at hx ⊢
        refine ⟨w5, ρ2, S5, st4.step s5 f5, _, _, hx, ?_, fun _ _ _ _ _ _ _ _ _ z => z.elim⟩
        rintro w6 S6 H6 yd yv s6 f6 ry ⟨hb, hx⟩
        have hD6 : H6 D = some (.lst us) := s6.rsv D _ hD5 (s5.up _ hR) n5
        have n6 : ∀ m, m < S6.length → w6.i m ≠ D := fun m hm z => by
          by_cases k : m < S5.length
          · rw [s6.ids m k] at z; exact n5 m k z
          · have q := s6.new m (by omega) hm
            rw [z, hD5] at q; cases q
        have hR6 := s6.up _ (s5.up _ hR)
        have m0 : Stp0 w6 S6.length H6 w6 S6.length (upd H6 D (.lst (us ++ [yv]))) := Stp0.mine hR6 hD6
        refine ⟨us, hD6, ?_, w6, S6, ys ++ [yd], us ++ [yv], Stp.mut (((s2.trans sH).trans s5).trans s6) hD, f6.mine hR6 hD6 n6, hR6, n6, upd_same, ?_, hx⟩
        · rw [← hl.len]; exact big_lt hb
        · exact ((((hl.stp sH).stp s5).stp s6).append (.cons ry .nil)).stp0 m0
  · rintro D H hD ⟨w2, S2, ys, us, s2, f2, hR, hn, hu, hl, hx⟩
    rw [show xs.drop xs.length = [] by simp] at hx
    exact hd D w2 S2 H ys us hD s2 f2 hR hn hu hl hx.2
/-- over zip of a tuple and a list of the row -/
def aLcZ (t : AM (List D)) (g : AG) (tt : AM Bool) (te : AM D) (vs : List Nat) : AM D := aBind t fun ds => fun ρ S Q _ => opt (two2 ds) fun p => opt (asT p.1) fun xs => opt (refOf p.2) fun m => opt (lstAt S m) fun ys => xs.length = ys.length ∧ lcI (fun S => lstAt S m = some ys) g tt te (wipeD ρ vs) (fun zs S' => Q (.lst zs) S') (zipD xs ys) [] S
theorem walk_zipI {c : Cg} {w : Wd} {S : Sto} {H : Hp} {a : Addr} {xs ys : List D} {us : List V} {m : Nat} (ha : SqT c.K H a us) (la : RelL c w S.length H xs us) (hm : m < S.length) (hl : xs.length = ys.length) :
    WalkI c w S.length H (fun S => lstAt S m = some ys) (ItzM c.K a (w.i m)) (zipD xs ys) := by
  have hz : (zipD xs ys).length = us.length := by simp [zipD, ← la.len, hl]
  refine ⟨fun H2 => SqT c.K H2 a us ∧ ∃ ws : List V, ws.length = us.length ∧ SqL c.K H2 (w.i m) ws, (ItzM c.K a (w.i m)).yld, ⟨?_, ?_, fun _ _ _ _ _ _ y => y⟩, ?_, ?_⟩
  · rintro i H2 hi ⟨hu, ws, hw, hb⟩
    rw [hz] at hi
    exact ⟨us, ws, us[i], ws[i], ⟨hu, by simp⟩, hb, by simp⟩
  · rintro H2 ⟨hu, ws, hw, hb⟩
    exact ⟨us, ws, hu, hb, .inl ⟨hz.symm, by omega⟩⟩
  · rintro w2 S2 H2 s f2 iv
    obtain ⟨_, _, ws, hw, rl⟩ := lstAt_rel f2 iv
    rw [s.ids m hm] at hw
    exact ⟨SqT.stp0 s.to0 ha, ws, by rw [← rl.len, ← la.len, hl], SqL.of hw⟩
  · rintro w2 S2 H2 i x H3 s f2 iv hi ⟨T, x1, y1, ⟨rfl, hT⟩, rfl, h1, h2⟩
    obtain ⟨_, _, ws, hw, rl⟩ := lstAt_rel f2 iv
    rw [s.ids m hm] at hw
    have h1 := h1 us (SqT.stp0 s.to0 ha)
    have h2 := h2 ws (SqL.of hw)
    obtain ⟨d1, e1, r1⟩ := (la.stp s).getV h1
    obtain ⟨d2, e2, r2⟩ := rl.getV h2
    refine ⟨same_new hT _, .tup [d1, d2], ?_, pair_new hT r1 r2⟩
    have k1 : i < min xs.length ys.length := by
      have := (List.getElem?_eq_some_iff.mp e1).1
      have := (List.getElem?_eq_some_iff.mp e2).1
      omega
    simp [zipD, k1, List.getD, e1, e2]
section
variable {X : Cx} {n : Cn} {elt e1 e2 : Expr} {elts ifs : List Expr} {scope : Scope} {own : List (Str × Nat)} {pos p tp p2 : Pos} {kk : Nat} {ta : AM (List D)} {g : TG} {gD : AG} {tt : AM Bool} {te : AM D}
theorem j_lcZ (hc : X.calm = true) (hN : X.N.Nodup) (gl : GL n.c g gD (own.map (·.2))) (hg0 : Gl X "zip") (hm : X.mg "zip" = none) (ha : JA X n [e1, e2] ta) (ok : BlkOk X.N X.env.scope scope own)
    (hg : ∀ (s : Shared) (H : Hp) (C : Addr) (cl : List (Str × Addr)) (fp : List Addr), PG (X.blk s H scope (compEnvC scope cl C X.env) fp) (.Tuple elts kk tp) g) (ht : ∀ (s : Shared) (H : Hp) (C : Addr) (cl : List (Str × Addr)) (fp : List Addr), PTs (X.blk s H scope (compEnvC scope cl C X.env) fp) ifs (upT n.no tt))
    (he : ∀ (s : Shared) (H : Hp) (C : Addr) (cl : List (Str × Addr)) (fp : List Addr), JE (X.blk s H scope (compEnvC scope cl C X.env) fp) n.no elt te) (hs : ∀ x, foldedSetIterable (.Call (.Name "zip" p) [e1, e2] [] p2) X.env x = pure x := by intro _; rfl) (hK : X.K = n.c.K := by rfl)
    (hs1 : starEach [e1, e2] X.env = (false, eval e1 X.env) :: starEach [e2] X.env := by rfl) (hpl : (backTo p2 (starEach [e2] X.env)).any (·.1) = false := by rfl) :
    JE X n (.ListComp elt [⟨.Tuple elts kk tp, .Call (.Name "zip" p) [e1, e2] [] p2, ifs, 0⟩] scope pos) (aLcZ ta gD tt te (own.map (·.2))) := PE.imp (pe_lc hc hN (pi_zipM n.c.K hg0 hm ha hK hs1 hpl) ok hg ht he hs) fun σ H Q h => by
  obtain ⟨w, ρ, S, st, h⟩ := h
  rw [tLc_eq]
  refine (upW.bind (r := RelL n.c) st h).mono ?_
  rintro vs H1 ⟨w1, S1, ds, st1, s1, r1, Q', E', hf, hq, _⟩
  obtain ⟨pr, ep, hf⟩ := opt_some hf
  obtain ⟨xs, ex, hf⟩ := opt_some hf
  obtain ⟨m, em, hf⟩ := opt_some hf
  obtain ⟨ys, ey, hl, hx⟩ := opt_some hf
  obtain ⟨x, y, rfl, rx, ry⟩ := two_rel ep r1
  obtain ⟨a, us, rfl, hu, la⟩ := asT_rel ex rx
  obtain ⟨_, hm1, rfl⟩ := refOf_rel em ry
  obtain ⟨_, _, ws, hw, rl⟩ := lstAt_rel st1.wf ey
  refine ⟨a, w1.i m, us, ws, rfl, hu, SqL.of hw, ?_⟩
  refine lc_runI gl st1 (walk_zipI hu la hm1 hl) hx fun D w2 S2 H2 ys us hD s2 f2 hR hn hu hl q => ?_
  obtain ⟨w3, s3, f3, r3⟩ := lc_stay st1.wf hD s2 f2 hR hn hu hl
  exact hq w3 S2 H2 _ _ s3 f3 r3 q
end
theorem lcI_by {Iv : Sto → Prop} {g : AG} {tt : AM Bool} {te : AM D} {ρ : Ev} {Q : List D → Sto → Prop} (Pv : List D → List D → Sto → Prop) (hi : ∀ r acc S, Pv r acc S → Iv S) (hn : ∀ acc S, Pv [] acc S → Q acc S)
    (hc : ∀ x r acc S, Pv (x :: r) acc S → ∀ F : List D → Sto → Prop, (∀ acc' S', Pv r acc' S' → F acc' S') → g x ρ fun ρ2 => tt ρ2 S (fun b S3 => if b = true then te ρ2 S3 (fun y S4 => acc.length < big ∧ F (acc ++ [y]) S4) (fun _ _ => False) else F acc S3) fun _ _ => False) :
    ∀ {xs acc : List D} {S : Sto}, Pv xs acc S → lcI Iv g tt te ρ Q xs acc S
  | [], acc, S, h => ⟨hi _ _ _ h, hn acc S h⟩
  | x :: r, acc, S, h => ⟨hi _ _ _ h, hc x r acc S h (fun acc' S' => lcI Iv g tt te ρ Q r acc' S') fun acc' S' h' => lcI_by Pv hi hn hc h'⟩
/-- items told by a function, all left as it is -/
theorem lcI_map {Iv : Sto → Prop} {g : AG} {tt : AM Bool} {te : AM D} {ρ : Ev} {Q : List D → Sto → Prop} {S : Sto} (p : D → Bool) (f : D → D) (hm : Iv S) {xs : List D} (hl : xs.length ≤ 1000000)
    (h : ∀ x ∈ xs, ∀ (Y : D → Sto → Prop) (F : Sto → Prop), (p x = true → Y (f x) S) → (p x = false → F S) → g x ρ fun ρ2 => tt ρ2 S (fun b S3 => if b = true then te ρ2 S3 Y (fun _ _ => False) else F S3) fun _ _ => False)
    (q : Q ((xs.filter p).map f) S) : lcI Iv g tt te ρ Q xs [] S := by
  refine lcI_by (fun r acc S' => S' = S ∧ (∀ x ∈ r, x ∈ xs) ∧ acc.length + r.length ≤ xs.length ∧ Q (acc ++ (r.filter p).map f) S) (fun _ _ _ h => by rw [h.1]; exact hm) ?_ ?_ ⟨rfl, fun _ h => h, by simp, by simpa using q⟩
  · rintro acc S' ⟨rfl, _, _, q⟩
    simpa using q
  · rintro x r acc S' ⟨rfl, hm, hle, q⟩ F hF
    refine h x (hm x (by simp)) _ _ (fun hp => ⟨?_, hF _ _ ⟨rfl, fun y hy => hm y (by simp [hy]), ?_, ?_⟩⟩) (fun hp => hF _ _ ⟨rfl, fun y hy => hm y (by simp [hy]), ?_, ?_⟩)
    · have : acc.length < 1000001 := by simp at hle; omega
      exact Nat.lt_of_lt_of_le this (by decide)
    · simp at hle ⊢; omega
    · simpa [List.filter_cons, hp] using q
    · simp at hle; omega
    · simpa [List.filter_cons, hp] using q
theorem v_l0 : (0 < big) = True := eq_true (by decide)
theorem v_l1 : (1 < big) = True := eq_true (by decide)
theorem cm2 (a b : D) : cutD [a, b] none (some (-1)) = [a] := rfl
theorem cm3 (a b c : D) : cutD [a, b, c] none (some (-1)) = [a, b] := rfl
theorem cm5 (a b c d e : D) : cutD [a, b, c, d, e] none (some (-1)) = [a, b, c, d] := rfl
theorem cm6 (a b c d e f : D) : cutD [a, b, c, d, e, f] none (some (-1)) = [a, b, c, d, e] := rfl
/-! ### constants of the module that are data -/
/-- the object at a is the data d, whatever the heap -/
def KDat (K : PySem.W.Frag) (a : Addr) (d : D) : Prop := ∀ (c : Cg) (w : Wd) (N : Nat) (H : Hp), c.K = K → Rel c w N H d (.ref a)
section
variable {X : Cx} {n : Cn} {x : Str} {pos : Pos} {a : Addr}
theorem j_gdat {d : D} (hg : Gl X x) (hm : X.mg x = some (.ref a)) (hk : KDat n.c.K a d) (hd : (x == ("__debug__" : Str)) = false := by decide) : JE X n (.Name x pos) (aC d) :=
  je_of_c (pe_glob (v := .ref a) hg hm rfl hd) fun w N H => hk n.c w N H rfl
end
theorem kdat_tup {K : PySem.W.Frag} {a : Addr} {o : Obj} {its : Array Value} {n : Nat} {ds : List D} {vs : List V} (lk : K.lookup a = some o) (hc : o.cls = .type "tuple") (hd : o.data = .seq its n) (hz : its.size ≤ sizeLine) (hv : Vals vs its.toList) (hr : ∀ (c : Cg) (w : Wd) (N : Nat) (H : Hp), c.K = K → RelL c w N H ds vs) : KDat K a (.tup ds) :=
  fun c w N H e => .tup (.inr (by rw [e]; exact ⟨o, its, n, lk, hc, hd, hz, hv⟩)) (hr c w N H e)
end A

set_option Elab.async false
set_option linter.all false
set_option maxRecDepth 100000
set_option maxHeartbeats 4000000
/-! what a def lays for itself is left behind, though it changes what stood -/
namespace A
open PySem PySem.Spec PyProof.Rows L2
/-- the same promise: what stood at the call stands as it did, or is data now; what is given back is frozen -/
def cutSp2 (sp : ASp) : ASp := fun ds S Q E => sp ds S (fun d S' => ∃ S1 T r, S' = S1 ++ T ∧ S1.length = S.length ∧ (∀ (i : Nat) (o : O), S1[i]? = some o → S[i]? = some o ∨ clO S.length o = true) ∧ frz S' S.length d = some r ∧ Q r S1)
  (fun x S' => ∃ S1 T, S' = S1 ++ T ∧ S1.length = S.length ∧ (∀ (i : Nat) (o : O), S1[i]? = some o → S[i]? = some o ∨ clO S.length o = true) ∧ cls S.length x.vs = true ∧ E x S1)
theorem cutSp2_up {c : Cg} {sp : ASp} (vs : List V) (H : Hp) (Q : VK) (E : XK) (h : upSp c (cutSp2 sp) vs H Q E) : upSp c sp vs H Q E := by
  obtain ⟨w, S, ds, Q', E', f, r, ht, hq, he⟩ := h
  have k0 := wf_cl f
  have kk : ∀ {S1 : Sto}, (∀ (i : Nat) (o : O), S1[i]? = some o → S[i]? = some o ∨ clO S.length o = true) → ∀ o ∈ S1, clO S.length o = true := fun {S1} h o ho => by
    obtain ⟨i, e⟩ := List.getElem?_of_mem ho
    rcases h i o e with e | e
    · exact k0 o (List.mem_of_getElem? e)
    · exact e
  refine ⟨w, S, ds, _, _, f, r, ht, ?_, ?_⟩
  · rintro w' S' H' d v s f' rd ⟨S1, T, y, rfl, hl, k, hz, q⟩
    have fc := f.cut s f' hl (kk k)
    refine hq w S1 H' y v (by rw [hl]; exact s.cut) fc ?_ q
    rw [hl]
    exact frz_rel f s f' hz rd
  · rintro w' S' H' x cl d s f' rx ⟨S1, T, rfl, hl, k, kx, q⟩
    have fc := f.cut s f' hl (kk k)
    refine he w S1 H' x cl d (by rw [hl]; exact s.cut) fc ?_ q
    rw [hl]
    exact rx.cut s.up s.ids kx
theorem _root_.L2.Fnc.cut2 {P : Program} {w : World} {K : PySem.W.Frag} {mg : Str → Option Value} {base : Heap} {k : Nat} {x : Str} {c : Cg} {sp sp' : ASp} (F : Fnc P w K mg base k x (upSp c sp)) (h : ∀ ds S Q E, sp' ds S Q E → cutSp2 sp ds S Q E) : Fnc P w K mg base k x (upSp c sp') :=
  F.imp fun vs H Q E z => cutSp2_up vs H Q E (by
    obtain ⟨w', S, ds, Q', E', f, r, ht, hq, he⟩ := z
    exact ⟨w', S, ds, Q', E', f, r, h ds S Q' E' ht, hq, he⟩)
end A

set_option Elab.async false
set_option linter.all false
set_option maxRecDepth 100000
set_option maxHeartbeats 4000000
/-! calls of defs with a starred argument -/
namespace L2
open PySem PySem.Spec PyProof.Rows
section
variable {X : Cx} {k n : Nat} {C : Addr} {sp : Sp} {E : St → XK} {x m : Str} {p pos apos : Pos} {e o : Expr} {es : List Expr} {ta : TE} {t : TA}
theorem pe_fcS (c : Fnc X.prog X.w X.K X.mg X.base k x sp) (hr : Room n X.A) (hk : k ≤ n) (hg : Gl X x) (hx : ∀ σ, PassesAt (L2N.CX X.prog X.w) X σ (E σ)) (ha : PA X (e :: es) t)
    (hdb : (x == ("__debug__" : Str)) = false := by decide) (he : starEach (e :: es) X.env = (false, eval e X.env) :: starEach es X.env := by rfl) (hst : (backTo pos (starEach es X.env)).any (·.1) = true := by rfl) :
    PE X (.Call (.Name x p) (e :: es) [] pos) (tCallS sp E t) := by
  obtain ⟨f, hm, kp, F⟩ := c.ex
  refine ⟨fun pins s σ H Q I h => wpAny_Call_Name_kw (ld_glob I hg hm ?_ hdb)⟩
  exact PySem.W.callWith_S2 (h₀ := X.base) I.ok.mod.kin kp (thn (ha.run pos pins s σ H _ I h) fun us s1 ⟨vs, H1, I1, r, q⟩ => ⟨I1.kIn, run_raw F (hr.mono hk) I1.env0 (hx σ) I1 r q⟩) he hst
end
end L2
namespace A
open PySem PySem.Spec PyProof.Rows L2
section
variable {X : Cx} {n : Cn} {k r : Nat} {sp : ASp} {x : Str} {p pos : Pos} {e : Expr} {es : List Expr} {t : AM (List D)}
theorem j_fcS (c : Fnc X.prog X.w X.K X.mg X.base k x (upSp n.c sp)) (hr : Room r X.A) (hk : k ≤ r) (hg : Gl X x) (hx : ∀ σ, PassesAt (L2N.CX X.prog X.w) X σ (WE n.W σ)) (ha : JA X n (e :: es) t)
    (hdb : (x == ("__debug__" : Str)) = false := by decide) (he : starEach (e :: es) X.env = (false, eval e X.env) :: starEach es X.env := by rfl) (hst : (backTo pos (starEach es X.env)).any (·.1) = true := by rfl) :
    JE X n (.Call (.Name x p) (e :: es) [] pos) (aCall sp t) := PE.imp (pe_fcS c hr hk hg hx ha hdb he hst) fun _ _ _ h => up_call h
end
end A

set_option Elab.async false
set_option linter.all false
set_option maxRecDepth 100000
set_option maxHeartbeats 4000000
namespace W
open PySem L2 A
local macro_rules | `(tactic| simp_arith [$ls,*]) => `(tactic| simp only [sSeq, sNext, sBind, sIf, sSet, sRet, sRetN, sDrop, sUn, sPar, sPar3, sPutL, sPutD, sFldD, sFldAugD, sFor, sMatch, sRaise, sRaise2, sNever, sBreak, sCont, sTry, hdl, hEnds, hEv, aXf, aBind, aOp, aVar, aC, aTest, aChain, aAnd, aOr, aNot, aAndV, aOrV, aNotV, aIf, aNeg, aNil, aCons, aStar, aTup, aLst, aLstM, aCB, aCall, aCallO, aFld, aMe, aPr, aMk, aItS, aRng1, aRng2, aEnum, aLc, aLcM, aLcR, aYes, aSl, oNo, oSo, aDGet, aDisp, aPairs, aAppend, aExtend, aPop, cxNil, cxIf, cxAny, gN, gsN, gsC, gT, hd1, wipeD, slot, isL, fNil, fOr, dSub, dFdiv, dMod, dPow, dI2, dI20, dLt, dLe, dGt, dGe, dIs, dIn, dIx, dKdIn, dKdGet, fLen, fInt, fAbs, fMax2, fMin2, fI2, fMin1, fSum, fAny, fAll, fList, fListM, fTuple, fBool, fIsi, intsOf, boolsOf, subTy, defEnds, startD, putFD, Option.bind_some, Option.map_some, Option.bind_none, Option.map_none, List.map_cons, List.map_nil, List.length_cons, List.length_nil, List.replicate, List.cons_append, List.nil_append, List.append_nil, List.set_cons_zero, List.set_cons_succ, Nat.reduceAdd, Nat.reduceSub, List.any_cons, List.any_nil, List.all_cons, List.all_nil, decide_eq_true_eq, decide_eq_false_iff_not, Bool.not_eq_true', Bool.not_eq_false', bxf, bxt, ofString_inj, ofString_beq, String.reduceEq, String.reduceBEq, decide_true, decide_false, Bool.not_true, Bool.not_false, Bool.false_eq_true, reduceCtorEq, if_true, if_false, ite_true, ite_false, Bool.or_eq_true, Bool.and_eq_true, true_and, and_true, false_and, and_false, or_false, false_or, true_or, or_true, not_true_eq_false, not_false_eq_true, Bool.or_false, Bool.false_or, Bool.or_true, Bool.true_or, Bool.and_true, Bool.true_and, Bool.and_false, Bool.false_and, Int.cast_ofNat_Int, Int.natCast_one, Int.natCast_zero, Int.reduceEq, Int.reduceLT, Int.reduceLE, Int.reduceAdd, Int.reduceSub, Int.reduceMul, Int.reduceNeg, Int.reduceGT, Int.reduceGE, Nat.reduceLT, Nat.reduceLeDiff, Nat.reduceEqDiff, Int.reduceToNat, v_p10, v_opt_s, v_opt_n, v_asI_non, v_asI_bl, v_asI_int, v_asI_str, v_asI_tup, v_asI_lst, v_asI_obj, v_asI_ref, v_asI_ty, v_asI_cl, v_asI_adr, v_asI_scr, v_asB_non, v_asB_bl, v_asB_int, v_asB_str, v_asB_tup, v_asB_lst, v_asB_obj, v_asB_ref, v_asB_ty, v_asB_cl, v_asB_adr, v_asB_scr, v_asS_non, v_asS_bl, v_asS_int, v_asS_str, v_asS_tup, v_asS_lst, v_asS_obj, v_asS_ref, v_asS_ty, v_asS_cl, v_asS_adr, v_asS_scr, v_asT_non, v_asT_bl, v_asT_int, v_asT_str, v_asT_tup, v_asT_lst, v_asT_obj, v_asT_ref, v_asT_ty, v_asT_cl, v_asT_adr, v_asT_scr, v_asInt_non, v_asInt_bl, v_asInt_int, v_asInt_str, v_asInt_tup, v_asInt_lst, v_asInt_obj, v_asInt_ref, v_asInt_ty, v_asInt_cl, v_asInt_adr, v_asInt_scr, v_asBool_non, v_asBool_bl, v_asBool_int, v_asBool_str, v_asBool_tup, v_asBool_lst, v_asBool_obj, v_asBool_ref, v_asBool_ty, v_asBool_cl, v_asBool_adr, v_asBool_scr, v_isNon_non, v_isNon_bl, v_isNon_int, v_isNon_str, v_isNon_tup, v_isNon_lst, v_isNon_obj, v_isNon_ref, v_isNon_ty, v_isNon_cl, v_isNon_adr, v_isNon_scr, v_asTy_non, v_asTy_bl, v_asTy_int, v_asTy_str, v_asTy_tup, v_asTy_lst, v_asTy_obj, v_asTy_ref, v_asTy_ty, v_asTy_cl, v_asTy_adr, v_asTy_scr, v_refOf_non, v_refOf_bl, v_refOf_int, v_refOf_str, v_refOf_tup, v_refOf_lst, v_refOf_obj, v_refOf_ref, v_refOf_ty, v_refOf_cl, v_refOf_adr, v_refOf_scr, v_fv_non, v_fv_bl, v_fv_int, v_fv_str, v_fv_tup, v_fv_lst, v_fv_obj, v_fv_ref, v_fv_ty, v_fv_cl, v_fv_adr, v_fv_scr, v_fvL_non, v_fvL_bl, v_fvL_int, v_fvL_str, v_fvL_tup, v_fvL_lst, v_fvL_obj, v_fvL_ref, v_fvL_ty, v_fvL_cl, v_fvL_adr, v_fvL_scr, v_lv_non, v_lv_bl, v_lv_int, v_lv_str, v_lv_tup, v_lv_lst, v_lv_obj, v_lv_ty, v_lv_cl, v_lv_adr, v_lv_scr, v_sv_non, v_sv_bl, v_sv_int, v_sv_str, v_sv_tup, v_sv_lst, v_sv_obj, v_sv_ty, v_sv_cl, v_sv_adr, v_sv_scr, v_tyN_non, v_tyN_bl, v_tyN_int, v_tyN_str, v_tyN_tup, v_tyN_lst, v_tyN_obj, v_tyN_ty, v_tyN_cl, v_tyN_adr, v_tyN_scr, v_rd_non, v_rd_bl, v_rd_int, v_rd_str, v_rd_tup, v_rd_lst, v_rd_obj, v_rd_ty, v_rd_cl, v_rd_adr, v_rd_scr, v_lv_ref, v_sv_ref, v_one1, v_two2, v_three3, v_four4, v_five5, v_six6, v_dEq_int_int, v_dEq_str_str, v_dEq_bl_bl, v_dEq_non_non, v_dEq_int_non, v_dEq_non_int, v_dEq_str_non, v_dEq_non_str, v_dEq_int_str, v_dEq_str_int, v_dEq_tup, v_dEq_lst, v_dEq_ref, v_dEq_non_tup, v_dEq_non_lst, v_dEq_non_ref, v_dEq_bl_tup, v_dEq_bl_lst, v_dEq_bl_ref, v_dEq_int_tup, v_dEq_int_lst, v_dEq_int_ref, v_dEq_str_tup, v_dEq_str_lst, v_dEq_str_ref, v_dNe_int_int, v_dNe_str_str, v_dNe_bl_bl, v_dNe_non_non, v_dNe_int_non, v_dNe_non_int, v_dNe_str_non, v_dNe_non_str, v_dNe_int_str, v_dNe_str_int, v_dNe_tup, v_dNe_lst, v_dNe_ref, v_dNe_non_tup, v_dNe_non_lst, v_dNe_non_ref, v_dNe_bl_tup, v_dNe_bl_lst, v_dNe_bl_ref, v_dNe_int_tup, v_dNe_int_lst, v_dNe_int_ref, v_dNe_str_tup, v_dNe_str_lst, v_dNe_str_ref, v_dAdd_int, v_dAdd_tup, v_dAdd_lst, v_dAdd_ref, v_dMul_int, v_dMul_lst, v_dSl_tup, v_dSl_lst, v_dSl_ref, v_flt_non, v_flt_bl, v_flt_int, v_flt_str, v_flt_tup, v_flt_lst, v_flt_obj, v_flt_ref, v_flt_ty, v_flt_cl, v_flt_adr, v_flt_scr, v_eqv1_non_non, v_eqv1_non_bl, v_eqv1_non_int, v_eqv1_non_str, v_eqv1_bl_non, v_eqv1_bl_bl, v_eqv1_bl_str, v_eqv1_int_non, v_eqv1_int_int, v_eqv1_int_str, v_eqv1_str_non, v_eqv1_str_bl, v_eqv1_str_int, v_eqv1_str_str, v_at0, v_at1, v_at2, v_at3, v_at4, v_at5, v_at6, v_atm1, v_k_int, v_k_bool, v_k_str, v_k_tuple, v_k_list, v_k_dict, v_b0, v_b1, v_b2, v_b3, v_b4, v_b5, v_b6, v_b7, v_b8, v_b9, v_b10, v_b11, v_b12, v_al1, v_al2, v_al3, v_al4, v_al5, v_al6, v_al7, v_dMul_tup, v_lst_push, v_ins_push, v_insOf_push, v_set_push, $ls,*])
local macro_rules | `(tactic| simp_arith) => `(tactic| simp only [sSeq, sNext, sBind, sIf, sSet, sRet, sRetN, sDrop, sUn, sPar, sPar3, sPutL, sPutD, sFldD, sFldAugD, sFor, sMatch, sRaise, sRaise2, sNever, sBreak, sCont, sTry, hdl, hEnds, hEv, aXf, aBind, aOp, aVar, aC, aTest, aChain, aAnd, aOr, aNot, aAndV, aOrV, aNotV, aIf, aNeg, aNil, aCons, aStar, aTup, aLst, aLstM, aCB, aCall, aCallO, aFld, aMe, aPr, aMk, aItS, aRng1, aRng2, aEnum, aLc, aLcM, aLcR, aYes, aSl, oNo, oSo, aDGet, aDisp, aPairs, aAppend, aExtend, aPop, cxNil, cxIf, cxAny, gN, gsN, gsC, gT, hd1, wipeD, slot, isL, fNil, fOr, dSub, dFdiv, dMod, dPow, dI2, dI20, dLt, dLe, dGt, dGe, dIs, dIn, dIx, dKdIn, dKdGet, fLen, fInt, fAbs, fMax2, fMin2, fI2, fMin1, fSum, fAny, fAll, fList, fListM, fTuple, fBool, fIsi, intsOf, boolsOf, subTy, defEnds, startD, putFD, Option.bind_some, Option.map_some, Option.bind_none, Option.map_none, List.map_cons, List.map_nil, List.length_cons, List.length_nil, List.replicate, List.cons_append, List.nil_append, List.append_nil, List.set_cons_zero, List.set_cons_succ, Nat.reduceAdd, Nat.reduceSub, List.any_cons, List.any_nil, List.all_cons, List.all_nil, decide_eq_true_eq, decide_eq_false_iff_not, Bool.not_eq_true', Bool.not_eq_false', bxf, bxt, ofString_inj, ofString_beq, String.reduceEq, String.reduceBEq, decide_true, decide_false, Bool.not_true, Bool.not_false, Bool.false_eq_true, reduceCtorEq, if_true, if_false, ite_true, ite_false, Bool.or_eq_true, Bool.and_eq_true, true_and, and_true, false_and, and_false, or_false, false_or, true_or, or_true, not_true_eq_false, not_false_eq_true, Bool.or_false, Bool.false_or, Bool.or_true, Bool.true_or, Bool.and_true, Bool.true_and, Bool.and_false, Bool.false_and, Int.cast_ofNat_Int, Int.natCast_one, Int.natCast_zero, Int.reduceEq, Int.reduceLT, Int.reduceLE, Int.reduceAdd, Int.reduceSub, Int.reduceMul, Int.reduceNeg, Int.reduceGT, Int.reduceGE, Nat.reduceLT, Nat.reduceLeDiff, Nat.reduceEqDiff, Int.reduceToNat, v_p10, v_opt_s, v_opt_n, v_asI_non, v_asI_bl, v_asI_int, v_asI_str, v_asI_tup, v_asI_lst, v_asI_obj, v_asI_ref, v_asI_ty, v_asI_cl, v_asI_adr, v_asI_scr, v_asB_non, v_asB_bl, v_asB_int, v_asB_str, v_asB_tup, v_asB_lst, v_asB_obj, v_asB_ref, v_asB_ty, v_asB_cl, v_asB_adr, v_asB_scr, v_asS_non, v_asS_bl, v_asS_int, v_asS_str, v_asS_tup, v_asS_lst, v_asS_obj, v_asS_ref, v_asS_ty, v_asS_cl, v_asS_adr, v_asS_scr, v_asT_non, v_asT_bl, v_asT_int, v_asT_str, v_asT_tup, v_asT_lst, v_asT_obj, v_asT_ref, v_asT_ty, v_asT_cl, v_asT_adr, v_asT_scr, v_asInt_non, v_asInt_bl, v_asInt_int, v_asInt_str, v_asInt_tup, v_asInt_lst, v_asInt_obj, v_asInt_ref, v_asInt_ty, v_asInt_cl, v_asInt_adr, v_asInt_scr, v_asBool_non, v_asBool_bl, v_asBool_int, v_asBool_str, v_asBool_tup, v_asBool_lst, v_asBool_obj, v_asBool_ref, v_asBool_ty, v_asBool_cl, v_asBool_adr, v_asBool_scr, v_isNon_non, v_isNon_bl, v_isNon_int, v_isNon_str, v_isNon_tup, v_isNon_lst, v_isNon_obj, v_isNon_ref, v_isNon_ty, v_isNon_cl, v_isNon_adr, v_isNon_scr, v_asTy_non, v_asTy_bl, v_asTy_int, v_asTy_str, v_asTy_tup, v_asTy_lst, v_asTy_obj, v_asTy_ref, v_asTy_ty, v_asTy_cl, v_asTy_adr, v_asTy_scr, v_refOf_non, v_refOf_bl, v_refOf_int, v_refOf_str, v_refOf_tup, v_refOf_lst, v_refOf_obj, v_refOf_ref, v_refOf_ty, v_refOf_cl, v_refOf_adr, v_refOf_scr, v_fv_non, v_fv_bl, v_fv_int, v_fv_str, v_fv_tup, v_fv_lst, v_fv_obj, v_fv_ref, v_fv_ty, v_fv_cl, v_fv_adr, v_fv_scr, v_fvL_non, v_fvL_bl, v_fvL_int, v_fvL_str, v_fvL_tup, v_fvL_lst, v_fvL_obj, v_fvL_ref, v_fvL_ty, v_fvL_cl, v_fvL_adr, v_fvL_scr, v_lv_non, v_lv_bl, v_lv_int, v_lv_str, v_lv_tup, v_lv_lst, v_lv_obj, v_lv_ty, v_lv_cl, v_lv_adr, v_lv_scr, v_sv_non, v_sv_bl, v_sv_int, v_sv_str, v_sv_tup, v_sv_lst, v_sv_obj, v_sv_ty, v_sv_cl, v_sv_adr, v_sv_scr, v_tyN_non, v_tyN_bl, v_tyN_int, v_tyN_str, v_tyN_tup, v_tyN_lst, v_tyN_obj, v_tyN_ty, v_tyN_cl, v_tyN_adr, v_tyN_scr, v_rd_non, v_rd_bl, v_rd_int, v_rd_str, v_rd_tup, v_rd_lst, v_rd_obj, v_rd_ty, v_rd_cl, v_rd_adr, v_rd_scr, v_lv_ref, v_sv_ref, v_one1, v_two2, v_three3, v_four4, v_five5, v_six6, v_dEq_int_int, v_dEq_str_str, v_dEq_bl_bl, v_dEq_non_non, v_dEq_int_non, v_dEq_non_int, v_dEq_str_non, v_dEq_non_str, v_dEq_int_str, v_dEq_str_int, v_dEq_tup, v_dEq_lst, v_dEq_ref, v_dEq_non_tup, v_dEq_non_lst, v_dEq_non_ref, v_dEq_bl_tup, v_dEq_bl_lst, v_dEq_bl_ref, v_dEq_int_tup, v_dEq_int_lst, v_dEq_int_ref, v_dEq_str_tup, v_dEq_str_lst, v_dEq_str_ref, v_dNe_int_int, v_dNe_str_str, v_dNe_bl_bl, v_dNe_non_non, v_dNe_int_non, v_dNe_non_int, v_dNe_str_non, v_dNe_non_str, v_dNe_int_str, v_dNe_str_int, v_dNe_tup, v_dNe_lst, v_dNe_ref, v_dNe_non_tup, v_dNe_non_lst, v_dNe_non_ref, v_dNe_bl_tup, v_dNe_bl_lst, v_dNe_bl_ref, v_dNe_int_tup, v_dNe_int_lst, v_dNe_int_ref, v_dNe_str_tup, v_dNe_str_lst, v_dNe_str_ref, v_dAdd_int, v_dAdd_tup, v_dAdd_lst, v_dAdd_ref, v_dMul_int, v_dMul_lst, v_dSl_tup, v_dSl_lst, v_dSl_ref, v_flt_non, v_flt_bl, v_flt_int, v_flt_str, v_flt_tup, v_flt_lst, v_flt_obj, v_flt_ref, v_flt_ty, v_flt_cl, v_flt_adr, v_flt_scr, v_eqv1_non_non, v_eqv1_non_bl, v_eqv1_non_int, v_eqv1_non_str, v_eqv1_bl_non, v_eqv1_bl_bl, v_eqv1_bl_str, v_eqv1_int_non, v_eqv1_int_int, v_eqv1_int_str, v_eqv1_str_non, v_eqv1_str_bl, v_eqv1_str_int, v_eqv1_str_str, v_at0, v_at1, v_at2, v_at3, v_at4, v_at5, v_at6, v_atm1, v_k_int, v_k_bool, v_k_str, v_k_tuple, v_k_list, v_k_dict, v_b0, v_b1, v_b2, v_b3, v_b4, v_b5, v_b6, v_b7, v_b8, v_b9, v_b10, v_b11, v_b12, v_al1, v_al2, v_al3, v_al4, v_al5, v_al6, v_al7, v_dMul_tup, v_lst_push, v_ins_push, v_insOf_push, v_set_push])
def topS (i : Nat) : Stmt := PySem.Challenge.pw_withinlimits_k55_checks_of_readers.main.body.getD i (.Pass ⟨0, 0, 0, 0⟩)
/-- the built-in names that the text does not bind -/
structure Bn (mg : Str → Option Value) : Prop where
  len : mg "len" = none
  abs : mg "abs" = none
  int : mg "int" = none
  str : mg "str" = none
  range : mg "range" = none
  list : mg "list" = none
  tuple : mg "tuple" = none
  dict : mg "dict" = none
  sum : mg "sum" = none
  isinstance : mg "isinstance" = none
  enumerate : mg "enumerate" = none
  zip : mg "zip" = none
  max : mg "max" = none
  min : mg "min" = none
  bool : mg "bool" = none
  any : mg "any" = none
  all : mg "all" = none
/-- a def of the text's top as it stands -/
structure Dfn (K : PySem.W.Frag) (mg : Str → Option Value) (x : Str) (st : Stmt) (ps : List Str) (f : Addr) (fd : FuncData) : Prop where
  F : FunG K x x st f fd
  m : mg x = some (.ref f)
  b : Binds K fd ps []
theorem Dfn.fnc {P : Program} {w : World} {K : PySem.W.Frag} {mg : Str → Option Value} {base : Heap} {k : Nat} {x : Str} {st : Stmt} {ps : List Str} {f : Addr} {fd : FuncData} {sp : Sp} (D : Dfn K mg x st ps f fd) (F : FnOk P w K mg base (L2N.CX P w) k f fd ps sp) : Fnc P w K mg base k x sp := fnc_of F D.b D.m D.F.kp
theorem Dfn.never {P : Program} {w : World} {K : PySem.W.Frag} {mg : Str → Option Value} {base : Heap} {k : Nat} {x : Str} {st : Stmt} {ps : List Str} {f : Addr} {fd : FuncData} {c : Cg} {sp : ASp} (D : Dfn K mg x st ps f fd) (no : ∀ ds S Q E, ¬ sp ds S Q E) : Fnc P w K mg base k x (upSp c sp) :=
  D.fnc ⟨fun vs H Q E ⟨_, S, ds, Q', E', _, _, h, _⟩ => absurd h (no ds S Q' E'), fun A outer s H args us vs Q E _ _ _ _ ⟨_, S, ds, Q', E', _, _, h, _⟩ => absurd h (no ds S Q' E')⟩

/-! ### the script's numbers -/
def PlO (o : O) : Prop := ∃ a b : Int, o = .lst [.int a, .int b] ∧ 0 ≤ a ∧ 0 ≤ b ∧ b < 2147483647
/-- a pool stands at m -/
def Pl (S : Sto) (m : Nat) : Prop := ∃ o, S[m]? = some o ∧ PlO o
/-- all but the objects of ms stay -/
def Chg (ms : List Nat) (S S' : Sto) : Prop := S'.length = S.length ∧ ∀ k, k ∉ ms → S'[k]? = S[k]?
theorem Chg.refl (ms : List Nat) (S : Sto) : Chg ms S S := ⟨rfl, fun _ _ => rfl⟩
theorem Chg.trans {ms : List Nat} {S S1 S2 : Sto} (a : Chg ms S S1) (b : Chg ms S1 S2) : Chg ms S S2 := ⟨b.1.trans a.1, fun k hk => (b.2 k hk).trans (a.2 k hk)⟩
theorem Chg.up {ms ns : List Nat} {S S1 : Sto} (a : Chg ms S S1) (h : ∀ k ∈ ms, k ∈ ns) : Chg ns S S1 := ⟨a.1, fun k hk => a.2 k fun z => hk (h k z)⟩
theorem Chg.at {S : Sto} {m : Nat} {o : O} : Chg [m] S (S.set m o) := ⟨by simp, fun k hk => by rw [List.getElem?_set_ne (fun e => hk (by simp [e]))]⟩
theorem lstAt_of {S : Sto} {m : Nat} {xs : List A.D} (h : S[m]? = some (.lst xs)) : lstAt S m = some xs := by unfold lstAt; rw [h]
theorem Pl.set {S : Sto} {m : Nat} {o : O} (h : Pl S m) (ho : PlO o) : Pl (S.set m o) m := by
  obtain ⟨o', e, _⟩ := h
  exact ⟨o, by rw [List.getElem?_set_self (List.getElem?_eq_some_iff.mp e).1], ho⟩
abbrev s_pool : Stmt := (topS 66)
theorem sc_pool : FnScope ["script", "k", "cell", "size", "seed"] ["script", "k"] (defScope s_pool) := ⟨rfl, rfl, rfl, by decide +kernel, rfl, by decide +kernel, by decide +kernel⟩
abbrev s_draw : Stmt := (topS 67)
theorem sc_draw : FnScope ["pool", "count", "found"] ["pool", "count"] (defScope s_draw) := ⟨rfl, rfl, rfl, by decide +kernel, rfl, by decide +kernel, by decide +kernel⟩
abbrev s_whole : Stmt := (topS 15)
theorem sc_whole : FnScope ["thing"] ["thing"] (defScope s_whole) := ⟨rfl, rfl, rfl, by decide +kernel, rfl, by decide +kernel, by decide +kernel⟩
abbrev s_betw : Stmt := (topS 16)
theorem sc_betw : FnScope ["thing", "low", "high"] ["thing", "low", "high"] (defScope s_betw) := ⟨rfl, rfl, rfl, by decide +kernel, rfl, by decide +kernel, by decide +kernel⟩
abbrev s_oneof : Stmt := (topS 17)
theorem sc_oneof : FnScope ["thing", "words"] ["thing", "words"] (defScope s_oneof) := ⟨rfl, rfl, rfl, by decide +kernel, rfl, by decide +kernel, by decide +kernel⟩
def spPool : ASp := fun ds S Q _ => opt (two2 ds) fun p => ∃ (ns : List Int) (k : Nat), p = (.scr ns, .int k) ∧ k ≤ 1000 ∧ ∀ o, PlO o → Q (.ref S.length) (S ++ [o])
def spDraw : ASp := fun ds S Q _ => opt (two2 ds) fun p => ∃ (m : Nat) (c : Int), p = (.ref m, .int c) ∧ Pl S m ∧ 0 < c ∧ c < 1073741824 ∧ ∀ (r : Int) S', 0 ≤ r → r < c → Chg [m] S S' → Pl S' m → Q (.int r) S'
theorem big2 {n : Nat} (h : n ≤ 1000000) : n ≤ big := Nat.le_trans h (by decide)
theorem mulS {i j : Int} (h : -(2 ^ 64) < j ∧ j < 2 ^ 64) : mulOk i j := .inl (.inr h)
theorem mulL {i j : Int} (h : -(2 ^ 64) < i ∧ i < 2 ^ 64) : mulOk i j := .inl (.inl h)
section
variable {P : Program} {w : World} {K : PySem.W.Frag} {cA : Str → Addr} {mg : Str → Option Value} {base : Heap} {f : Addr} {fd : FuncData}
theorem d_pool (D : Dfn K mg "_law_pool" s_pool ["script", "k"] f fd) (T : Bn mg) : Fnc P w K mg base 1 "_law_pool" (upSp ⟨K, cA⟩ spPool) := by
  refine D.fnc (def_ok (k := 0) D.F sc_pool (fun cdv A outer s H E hr => (js_cons (js_set (i := 2) sc_pool.nd rfl (Or.inl rfl) j_int)
    (js_cons (js_if (jt_cmp op_lt os_lt (jv 1) (j_callB (kcall_len_seq K) cs_len (by rfl) T.len (by decide +kernel) (ja_cons (jv 0) ja_nil)) (nomark _))
      (js_one (js_set (i := 2) sc_pool.nd rfl (Or.inl rfl) (j_ix (kix_lt K) os_ix (jv 0) (jv 1) (fun _ _ => rfl))))
      js_nil)
    (js_cons (js_set (i := 3) sc_pool.nd rfl (Or.inl rfl) (j_callB call_abs cs_abs (by rfl) T.abs (by decide +kernel) (ja_cons (jv 2) ja_nil)))
    (js_cons (js_set (i := 4) sc_pool.nd rfl (Or.inl rfl) (j_op op_mod os_mod (j_op (op_mulB K) os_mul (j_op (op_addA K) os_add (j_op (op_addA K) os_add (j_op op_mod os_mod (jv 3) j_int) (j_op (op_mulB K) os_mul j_int (jv 1))) j_int) j_int) j_int))
    (js_one (js_ret (j_lstM (ja_cons (j_op (op_mulB K) os_mul (jv 3) (j_callTy call_int1 cs_int (by rfl) T.int (by decide +kernel) (ja_cons (j_cmp op_ge os_ge (jv 3) (j_op op_pow os_pow j_int j_int) (nomark _)) ja_nil))) (ja_cons (jv 4) ja_nil)))))))))) ?_ ?_)
  · intro ds S Q E h
    obtain ⟨a, b, rfl, _⟩ := opt_two h
    rfl
  · intro ds S Q E h
    obtain ⟨a, b, rfl, ns, k, e, hk, q⟩ := opt_two h
    cases e
    simp_arith
    have go : ∀ z : Int, 0 ≤ z → mulOk 7919 (k : Int) ∧ mulOk (z % 2147483629 + 7919 * (k : Int) + 31) 48271 ∧ mulOk z (if 10 ^ 18 ≤ z then 1 else 0) ∧
        Q (A.D.ref (List.length S)) (S ++ [O.lst [A.D.int (z * if 10 ^ 18 ≤ z then 1 else 0), A.D.int ((z % 2147483629 + 7919 * (k : Int) + 31) * 48271 % 2147483647)]]) := by
      intro z hz
      refine ⟨mulL (by decide), mulS (by decide), mulS (by split <;> decide), q _ ⟨_, _, rfl, ?_, ?_, ?_⟩⟩
      · split <;> omega
      · exact Int.emod_nonneg _ (by decide)
      · exact Int.emod_lt_of_pos _ (by decide)
    split
    · rename_i hl
      have hl' : k < ns.length := by simpa using hl
      have e : atI (ns.map A.D.int) (k : Int) = some (.int (ns[k])) := atD (by rw [List.getElem?_map, List.getElem?_eq_getElem hl']; rfl)
      rw [e]
      simp_arith
      have := go (if ns[k] < 0 then -ns[k] else ns[k]) (by split <;> omega)
      exact this
    · exact go 0 (by decide)
theorem d_draw (D : Dfn K mg "_law_draw" s_draw ["pool", "count"] f fd) (T : Bn mg) : Fnc P w K mg base 1 "_law_draw" (upSp ⟨K, cA⟩ spDraw) := by
  refine D.fnc (def_ok (k := 0) D.F sc_draw (fun cdv A outer s H E hr => (js_cons (js_if (jt_cmp op_gt os_gt (j_ix (kix_lt K) os_ix (jv 0) j_int (fun _ _ => rfl)) j_int (nomark _))
      (js_cons (js_set (i := 2) sc_draw.nd rfl (Or.inl rfl) (j_op op_mod os_mod (j_callTy call_int1 cs_int (by rfl) T.int (by decide +kernel) (ja_cons (j_ix (kix_lt K) os_ix (jv 0) j_int (fun _ _ => rfl)) ja_nil)) (jv 1)))
      (js_cons (js_putL (jv 0) j_int (j_op op_fdiv os_fdiv (j_callTy call_int1 cs_int (by rfl) T.int (by decide +kernel) (ja_cons (j_ix (kix_lt K) os_ix (jv 0) j_int (fun _ _ => rfl)) ja_nil)) (jv 1)))
      (js_one (js_ret (jv 2)))))
      js_nil)
    (js_cons (js_putL (jv 0) j_int (j_op op_mod os_mod (j_callTy call_int1 cs_int (by rfl) T.int (by decide +kernel) (ja_cons (j_op (op_addA K) os_add (j_op (op_mulB K) os_mul (j_ix (kix_lt K) os_ix (jv 0) j_int (fun _ _ => rfl)) j_int) j_int) ja_nil)) j_int))
    (js_one (js_ret (j_op op_mod os_mod (j_callTy call_int1 cs_int (by rfl) T.int (by decide +kernel) (ja_cons (j_op op_fdiv os_fdiv (j_op op_mod os_mod (j_callTy call_int1 cs_int (by rfl) T.int (by decide +kernel) (ja_cons (j_op (op_mulB K) os_mul (j_ix (kix_lt K) os_ix (jv 0) j_int (fun _ _ => rfl)) (j_ix (kix_lt K) os_ix (jv 0) j_int (fun _ _ => rfl))) ja_nil)) j_int) j_int) ja_nil)) (jv 1))))))) ?_ ?_)
  · intro ds S Q E h
    obtain ⟨a, b, rfl, _⟩ := opt_two h
    rfl
  · intro ds S Q E h
    obtain ⟨a, b, rfl, m, c, e, hp, c0, c1, q⟩ := opt_two h
    cases e
    obtain ⟨o, eo, x, y, rfl, hx, hy, hy'⟩ := id hp
    have hm : m < S.length := (List.getElem?_eq_some_iff.mp eo).1
    have i0 : ∀ u v : A.D, atI [u, v] 0 = some u := fun u v => rfl
    have i1 : ∀ u v : A.D, atI [u, v] 1 = some v := fun u v => rfl
    have x0 : ixN 2 0 = some 0 := rfl
    have x1 : ixN 2 1 = some 1 := rfl
    have l1 : ∀ o, (S.set m o)[m]? = some o := fun o => by rw [List.getElem?_set_self hm]
    simp_arith [lstAt_of eo, i0, i1, x0, x1]
    split
    · rename_i hpos
      refine ⟨c0, ⟨c0, by omega⟩, ?_⟩
      exact q _ _ (Int.emod_nonneg _ (by omega)) (Int.emod_lt_of_pos _ c0) Chg.at (hp.set ⟨x / c, y, rfl, Int.ediv_nonneg hx (by omega), hy, hy'⟩)
    · refine ⟨mulS (by decide), ?_⟩
      rw [lstAt_of (l1 _)]
      simp_arith [i0, i1]
      refine ⟨mulS ?_, c0, ?_⟩
      · have h1 := Int.emod_nonneg (y * 48271 + 11) (show (2147483647 : Int) ≠ 0 by decide)
        have h2 := Int.emod_lt_of_pos (y * 48271 + 11) (show (0 : Int) < 2147483647 by decide)
        omega
      · refine q _ _ (Int.emod_nonneg _ (by omega)) (Int.emod_lt_of_pos _ c0) Chg.at (hp.set ⟨x, _, rfl, hx, ?_, ?_⟩)
        · exact Int.emod_nonneg _ (by decide)
        · exact Int.emod_lt_of_pos _ (by decide)
end
/-! ### small questions -/
def isWhole : A.D → Bool
  | .int _ => true
  | _ => false
def isBetw (lo hi : Int) : A.D → Bool
  | .int i => decide (lo ≤ i) && decide (i ≤ hi)
  | _ => false
def isOneOf (ss : List Str) : A.D → Bool
  | .str x => decide (x ∈ ss)
  | _ => false
def spWhole : ASp := fun ds S Q _ => opt (one1 ds) fun d => isPd d = true ∧ Q (.bl (isWhole d)) S
def spBetw : ASp := fun ds S Q _ => opt (three3 ds) fun p => isPd p.1 = true ∧ ∃ lo hi : Int, p.2 = (.int lo, .int hi) ∧ Q (.bl (isBetw lo hi p.1)) S
def spOneOf : ASp := fun ds S Q _ => opt (two2 ds) fun p => isPd p.1 = true ∧ ∃ ss : List Str, p.2 = .tup (ss.map A.D.str) ∧ Q (.bl (isOneOf ss p.1)) S
theorem known_mem : "int" ∈ tyKnown ∧ "bool" ∈ tyKnown ∧ "str" ∈ tyKnown ∧ "tuple" ∈ tyKnown ∧ "list" ∈ tyKnown := by decide
section
variable {P : Program} {w : World} {K : PySem.W.Frag} {cA : Str → Addr} {mg : Str → Option Value} {base : Heap} {f : Addr} {fd : FuncData}
theorem d_whole (D : Dfn K mg "is_whole" s_whole ["thing"] f fd) (T : Bn mg) : Fnc P w K mg base 1 "is_whole" (upSp ⟨K, cA⟩ spWhole) := by
  refine D.fnc (def_ok (k := 0) D.F sc_whole (fun cdv A outer s H E hr => (js_one (js_ret (j_and (j_callB (kcall_isi K) cs_isi (by rfl) T.isinstance (by decide +kernel) (ja_cons (jv 0) (ja_cons (j_gty (T := "int") (by rfl) T.int (by decide +kernel)) ja_nil))) (j_one (j_not (j_callB (kcall_isi K) cs_isi (by rfl) T.isinstance (by decide +kernel) (ja_cons (jv 0) (ja_cons (j_gty (T := "bool") (by rfl) T.bool (by decide +kernel)) ja_nil))))))))) ?_ ?_)
  · intro ds S Q E h
    obtain ⟨a, rfl, _⟩ := opt_one h
    rfl
  · intro ds S Q E h
    obtain ⟨d, rfl, hd, q⟩ := opt_one h
    simp_arith
    cases d <;> first
      | (simp [isPd] at hd; done)
      | (simp_arith [known_mem, isWhole, String.reduceBEq]; simpa [isWhole, known_mem] using q)
theorem d_betw (D : Dfn K mg "is_between" s_betw ["thing", "low", "high"] f fd) (T : Bn mg) (cW : Fnc P w K mg base 1 "is_whole" (upSp ⟨K, cA⟩ spWhole)) : Fnc P w K mg base 2 "is_between" (upSp ⟨K, cA⟩ spBetw) := by
  refine D.fnc (def_ok (k := 1) D.F sc_betw (fun cdv A outer s H E hr => (js_one (js_ret (j_and (j_fc cW hr (by omega) rfl (L2N.passAt (L2N.takes_of rfl rfl rfl rfl)) (ja_cons (jv 0) ja_nil)) (j_one (j_chain op_le op_le os_le os_le (jv 1) (jv 0) (jv 2))))))) ?_ ?_)
  · intro ds S Q E h
    obtain ⟨a, b, c, rfl, _⟩ := opt_three h
    rfl
  · intro ds S Q E h
    obtain ⟨d, b, c, rfl, hd, lo, hi, e, q⟩ := opt_three h
    cases e
    simp_arith [spWhole]
    refine ⟨hd, ?_⟩
    cases d <;> first
      | (simp [isPd] at hd; done)
      | (simp only [isWhole, isBetw] at q ⊢; simp_arith; first | exact q | skip)
    rename_i i
    by_cases h1 : lo ≤ i
    · simp only [h1, decide_true, Bool.true_and] at q ⊢
      exact q
    · simp only [h1, decide_false, Bool.false_and] at q ⊢
      exact q
theorem d_oneof (D : Dfn K mg "is_one_of" s_oneof ["thing", "words"] f fd) (T : Bn mg) : Fnc P w K mg base 1 "is_one_of" (upSp ⟨K, cA⟩ spOneOf) := by
  refine D.fnc (def_ok (k := 0) D.F sc_oneof (fun cdv A outer s H E hr => (js_one (js_ret (j_and (j_callB (kcall_isi K) cs_isi (by rfl) T.isinstance (by decide +kernel) (ja_cons (jv 0) (ja_cons (j_gty (T := "str") (by rfl) T.str (by decide +kernel)) ja_nil))) (j_one (j_cmp (kop_in_seq K) (os_in (neg := false)) (jv 0) (jv 1) rfl)))))) ?_ ?_)
  · intro ds S Q E h
    obtain ⟨a, b, rfl, _⟩ := opt_two h
    rfl
  · intro ds S Q E h
    obtain ⟨d, b, rfl, hd, ss, rfl, q⟩ := opt_two h
    simp_arith
    cases d <;> first
      | (simp [isPd] at hd; done)
      | (simp_arith [known_mem, String.reduceBEq]; simp only [isOneOf] at q; first | exact q | skip)
    rename_i x
    refine ⟨?_, ?_⟩
    · rw [List.all_map, List.all_eq_true]
      exact fun _ _ => rfl
    · have e : (List.any (List.map A.D.str ss) fun y => eqv1 y (A.D.str x)) = decide (x ∈ ss) := by
        rw [List.any_map, Bool.eq_iff_iff, List.any_eq_true]
        simp only [Function.comp, A.v_eqv1_str_str, beq_iff_eq, decide_eq_true_eq]
        exact ⟨fun ⟨y, h1, h2⟩ => h2 ▸ h1, fun h => ⟨x, h, rfl⟩⟩
      rw [e]
      exact q
end


/-! ### the form of parts -/
def hows : List Str := ["checked", "bare"]
def limits : List Str := ["nested", "cut", "told"]
def rests : List Str := ["skip", "exact"]
def lens : List (Str × Int) := [("cell", 4), ("row", 2), ("choice", 3), ("times", 3), ("counted", 5), ("within", 6), ("fill", 2), ("if left", 2), ("need", 2), ("pad", 3)]
def isMost (g : Int) : A.D → Bool
  | .non => true
  | d => isBetw 0 g d
def numOf : A.D → Int
  | .int i => i
  | _ => 0
def isCellB (low high how : A.D) : Bool := (isBetw 0 1000000 low && isOneOf hows how) && (match high with | .non => true | h => isBetw (numOf low) 1000000 h)
def isOptB (last : Int) : A.D → Bool
  | .tup [n, _] => isBetw (last + 1) 99 n
  | _ => false
def optNum : A.D → Int
  | .tup (.int n :: _) => n
  | _ => 0
def optsB : Int → List A.D → Bool
  | _, [] => true
  | last, o :: r => isOptB last o && optsB (optNum o) r
def areOpts : A.D → Bool
  | .tup os => (decide (1 ≤ os.length) && decide (os.length ≤ 6)) && optsB (-1) os
  | _ => false
def isLimitB (how most limit rest : A.D) : Bool := isOneOf hows how && (isMost 20 most && (isOneOf limits limit && isOneOf rests rest))
def rowB : A.D → Bool
  | .tup ps => decide ((ps.length : Int) ≤ 12)
  | _ => false
/-- the fields behind the kind k -/
def formB (k : Str) (fs : List A.D) : Bool :=
  if k = "cell" then isCellB (fs.getD 0 .non) (fs.getD 1 .non) (fs.getD 2 .non)
  else if k = "row" then rowB (fs.getD 0 .non)
  else if k = "choice" then isOneOf hows (fs.getD 0 .non) && areOpts (fs.getD 1 .non)
  else if k = "times" then isBetw 0 6 (fs.getD 0 .non)
  else if k = "counted" then isOneOf hows (fs.getD 0 .non) && (isMost 9 (fs.getD 1 .non) && isMost 9 (fs.getD 2 .non))
  else if k = "within" then isLimitB (fs.getD 0 .non) (fs.getD 1 .non) (fs.getD 2 .non) (fs.getD 3 .non)
  else if k = "need" then isBetw 1 9 (fs.getD 0 .non)
  else if k = "pad" then isBetw 2 6 (fs.getD 0 .non) && isOneOf hows (fs.getD 1 .non)
  else true
def hasForm : A.D → Bool
  | .tup (.str k :: fs) => decide (lens.lookup k = some ((fs.length : Int) + 1)) && formB k fs
  | _ => false
abbrev s_option : Stmt := (topS 30)
theorem sc_option : FnScope ["thing", "last"] ["thing", "last"] (defScope s_option) := ⟨rfl, rfl, rfl, by decide +kernel, rfl, by decide +kernel, by decide +kernel⟩
abbrev s_options : Stmt := (topS 31)
theorem sc_options : FnScope ["thing", "last", "option"] ["thing"] (defScope s_options) := ⟨rfl, rfl, rfl, by decide +kernel, rfl, by decide +kernel, by decide +kernel⟩
abbrev s_most : Stmt := (topS 32)
theorem sc_most : FnScope ["thing", "greatest"] ["thing", "greatest"] (defScope s_most) := ⟨rfl, rfl, rfl, by decide +kernel, rfl, by decide +kernel, by decide +kernel⟩
abbrev s_icell : Stmt := (topS 33)
theorem sc_icell : FnScope ["low", "high", "how"] ["low", "high", "how"] (defScope s_icell) := ⟨rfl, rfl, rfl, by decide +kernel, rfl, by decide +kernel, by decide +kernel⟩
abbrev s_ilimit : Stmt := (topS 34)
theorem sc_ilimit : FnScope ["how", "most", "limit", "rest"] ["how", "most", "limit", "rest"] (defScope s_ilimit) := ⟨rfl, rfl, rfl, by decide +kernel, rfl, by decide +kernel, by decide +kernel⟩
abbrev s_form : Stmt := (topS 35)
theorem sc_form : FnScope ["thing"] ["thing"] (defScope s_form) := ⟨rfl, rfl, rfl, by decide +kernel, rfl, by decide +kernel, by decide +kernel⟩
def spOption : ASp := fun ds S Q _ => opt (two2 ds) fun p => isPd p.1 = true ∧ ∃ l : Int, p.2 = .int l ∧ Q (.bl (isOptB l p.1)) S
def spOptions : ASp := fun ds S Q _ => opt (one1 ds) fun d => isPd d = true ∧ Q (.bl (areOpts d)) S
def spMost : ASp := fun ds S Q _ => opt (two2 ds) fun p => isPd p.1 = true ∧ ∃ g : Int, p.2 = .int g ∧ Q (.bl (isMost g p.1)) S
def spIcell : ASp := fun ds S Q _ => opt (three3 ds) fun p => (isPd p.1 = true ∧ isPd p.2.1 = true ∧ isPd p.2.2 = true) ∧ Q (.bl (isCellB p.1 p.2.1 p.2.2)) S
def spIlimit : ASp := fun ds S Q _ => opt (four4 ds) fun p => (isPd p.1 = true ∧ isPd p.2.1 = true ∧ isPd p.2.2.1 = true ∧ isPd p.2.2.2 = true) ∧ Q (.bl (isLimitB p.1 p.2.1 p.2.2.1 p.2.2.2)) S
def spForm : ASp := fun ds S Q _ => opt (one1 ds) fun d => dat d = true ∧ Q (.bl (hasForm d)) S
/-- the constants of the module -/
structure Cst (K : PySem.W.Frag) (w : World) (mg : Str → Option Value) (aH aL aR aM : Addr) : Prop where
  gHows : mg "HOWS" = some (.ref aH)
  kHows : KTup K aH hows
  gLimits : mg "LIMITS" = some (.ref aL)
  kLimits : KTup K aL limits
  gRests : mg "RESTS" = some (.ref aR)
  kRests : KTup K aR rests
  gLens : mg "LENGTHS" = some (.ref aM)
  kLens : KDc K w aM W.lens
  highest : ∃ t, mg "HIGHEST" = some (.int 1000000 t)
  parts : ∃ t, mg "MOST_PARTS" = some (.int 60 t)
  unroll : ∃ t, mg "MOST_UNROLLED" = some (.int 1000 t)
  depth : ∃ t, mg "MOST_DEPTH" = some (.int 8 t)
theorem isPds_mem : ∀ {xs : List A.D}, isPds xs = true → ∀ x ∈ xs, isPd x = true
  | [], _, x, hx => by simp at hx
  | y :: ys, h, x, hx => by
    have h' : isPd y = true ∧ isPds ys = true := by simpa [isPds] using h
    rcases List.mem_cons.mp hx with rfl | hx
    · exact h'.1
    · exact isPds_mem h'.2 x hx
theorem isPd_tup {xs : List A.D} : isPd (.tup xs) = isPds xs := rfl
section
variable {P : Program} {w : World} {K : PySem.W.Frag} {cA : Str → Addr} {mg : Str → Option Value} {base : Heap} {f aH aL aR aM : Addr} {fd : FuncData}
theorem d_option (D : Dfn K mg "is_option" s_option ["thing", "last"] f fd) (T : Bn mg) (cB : Fnc P w K mg base 2 "is_between" (upSp ⟨K, cA⟩ spBetw)) : Fnc P w K mg base 3 "is_option" (upSp ⟨K, cA⟩ spOption) := by
  refine D.fnc (def_ok (k := 2) D.F sc_option (fun cdv A outer s H E hr => (js_one (js_ret (j_and (j_callB (kcall_isi K) cs_isi (by rfl) T.isinstance (by decide +kernel) (ja_cons (jv 0) (ja_cons (j_gty (T := "tuple") (by rfl) T.tuple (by decide +kernel)) ja_nil))) (j_and (j_cmp (op_eqA K hr.units) os_eq (j_callB (kcall_len_seq K) cs_len (by rfl) T.len (by decide +kernel) (ja_cons (jv 0) ja_nil)) j_int (nomark _)) (j_one (j_fc cB hr (by omega) rfl (L2N.passAt (L2N.takes_of rfl rfl rfl rfl)) (ja_cons (j_ix (kix_lt K) os_ix (jv 0) j_int (fun _ _ => rfl)) (ja_cons (j_op (op_addA K) os_add (jv 1) j_int) (ja_cons j_int ja_nil)))))))))) ?_ ?_)
  · intro ds S Q E h
    obtain ⟨a, b, rfl, _⟩ := opt_two h
    rfl
  · intro ds S Q E h
    obtain ⟨d, b, rfl, hd, l, rfl, q⟩ := opt_two h
    cases d <;> first
      | (simp [isPd] at hd; done)
      | (simp_arith; exact q)
      | skip
    rename_i xs
    match xs, hd, q with
    | [x, y], hd, q =>
      have hx : isPd x = true := isPds_mem (xs := [x, y]) hd x (by simp)
      simp_arith [spBetw]
      exact ⟨hx, _, _, rfl, q⟩
    | [], hd, q => simp_arith; exact q
    | [x], hd, q => simp_arith; exact q
    | x :: y :: z :: r, hd, q =>
      have e : ¬ ((((x :: y :: z :: r).length : Nat) : Int) = 2) := by simp; omega
      have e' : ¬ (((r.length + 3 : Nat) : Int) = 2) := by omega
      simp_arith [e']
      exact q
theorem d_most (D : Dfn K mg "is_most" s_most ["thing", "greatest"] f fd) (T : Bn mg) (cB : Fnc P w K mg base 2 "is_between" (upSp ⟨K, cA⟩ spBetw)) : Fnc P w K mg base 3 "is_most" (upSp ⟨K, cA⟩ spMost) := by
  refine D.fnc (def_ok (k := 2) D.F sc_most (fun cdv A outer s H E hr => (js_one (js_ret (j_or (j_cmp op_isN os_is (jv 0) j_non (nomark _)) (j_one (j_fc cB hr (by omega) rfl (L2N.passAt (L2N.takes_of rfl rfl rfl rfl)) (ja_cons (jv 0) (ja_cons j_int (ja_cons (jv 1) ja_nil))))))))) ?_ ?_)
  · intro ds S Q E h
    obtain ⟨a, b, rfl, _⟩ := opt_two h
    rfl
  · intro ds S Q E h
    obtain ⟨d, b, rfl, hd, g, rfl, q⟩ := opt_two h
    cases d <;> first
      | (simp [isPd] at hd; done)
      | (simp_arith; exact q)
      | (simp_arith [spBetw]; exact ⟨hd, _, _, rfl, q⟩)
theorem d_icell (D : Dfn K mg "is_cell" s_icell ["low", "high", "how"] f fd) (T : Bn mg) (M : Cst K w mg aH aL aR aM) (cB : Fnc P w K mg base 2 "is_between" (upSp ⟨K, cA⟩ spBetw)) (cO : Fnc P w K mg base 1 "is_one_of" (upSp ⟨K, cA⟩ spOneOf)) : Fnc P w K mg base 3 "is_cell" (upSp ⟨K, cA⟩ spIcell) := by
  obtain ⟨th, gHighest⟩ := M.highest
  have gHows := M.gHows
  have kHows := M.kHows
  refine D.fnc (def_ok (k := 2) D.F sc_icell (fun cdv A outer s H E hr => (js_cons (js_if (JW.jt (jw_or (jt_not (jt_val (j_fc cB hr (by omega) rfl (L2N.passAt (L2N.takes_of rfl rfl rfl rfl)) (ja_cons (jv 0) (ja_cons j_int (ja_cons (j_gint (by rfl) gHighest) ja_nil)))))) (jw_or1 (jt_not (jt_val (j_fc cO hr (by omega) rfl (L2N.passAt (L2N.takes_of rfl rfl rfl rfl)) (ja_cons (jv 2) (ja_cons (j_gtup (by rfl) gHows kHows) ja_nil))))))))
      (js_one (js_ret j_bl))
      js_nil)
    (js_one (js_ret (j_or (j_cmp op_isN os_is (jv 1) j_non (nomark _)) (j_one (j_fc cB hr (by omega) rfl (L2N.passAt (L2N.takes_of rfl rfl rfl rfl)) (ja_cons (jv 1) (ja_cons (jv 0) (ja_cons (j_gint (by rfl) gHighest) ja_nil)))))))))) ?_ ?_)
  · intro ds S Q E h
    obtain ⟨a, b, c, rfl, _⟩ := opt_three h
    rfl
  · intro ds S Q E h
    obtain ⟨a, b, c, rfl, ⟨ha, hb, hc⟩, q⟩ := opt_three h
    simp_arith [spBetw, spOneOf]
    refine ⟨ha, _, _, rfl, ?_⟩
    simp only [isCellB] at q
    cases h1 : isBetw 0 1000000 a with
    | false => rw [h1] at q; simp_arith; exact q
    | true =>
      rw [h1] at q
      simp_arith
      refine ⟨hc, hows, rfl, ?_⟩
      cases h2 : isOneOf hows c with
      | false => rw [h2] at q; simp_arith; exact q
      | true =>
        rw [h2] at q
        simp_arith
        cases b <;> first
          | (simp [isPd] at hb; done)
          | (simp_arith; exact q)
          | (simp_arith
             cases a <;> first
               | (simp [isBetw] at h1; done)
               | exact ⟨hb, _, _, ⟨rfl, rfl⟩, q⟩
               | exact ⟨hb, _, _, rfl, q⟩)
theorem d_ilimit (D : Dfn K mg "is_limit" s_ilimit ["how", "most", "limit", "rest"] f fd) (T : Bn mg) (M : Cst K w mg aH aL aR aM) (cM : Fnc P w K mg base 3 "is_most" (upSp ⟨K, cA⟩ spMost)) (cO : Fnc P w K mg base 1 "is_one_of" (upSp ⟨K, cA⟩ spOneOf)) : Fnc P w K mg base 4 "is_limit" (upSp ⟨K, cA⟩ spIlimit) := by
  have gHows := M.gHows
  have kHows := M.kHows
  have gLimits := M.gLimits
  have kLimits := M.kLimits
  have gRests := M.gRests
  have kRests := M.kRests
  refine D.fnc (def_ok (k := 3) D.F sc_ilimit (fun cdv A outer s H E hr => (js_one (js_ret (j_and (j_fc cO hr (by omega) rfl (L2N.passAt (L2N.takes_of rfl rfl rfl rfl)) (ja_cons (jv 0) (ja_cons (j_gtup (by rfl) gHows kHows) ja_nil))) (j_and (j_fc cM hr (by omega) rfl (L2N.passAt (L2N.takes_of rfl rfl rfl rfl)) (ja_cons (jv 1) (ja_cons j_int ja_nil))) (j_and (j_fc cO hr (by omega) rfl (L2N.passAt (L2N.takes_of rfl rfl rfl rfl)) (ja_cons (jv 2) (ja_cons (j_gtup (by rfl) gLimits kLimits) ja_nil))) (j_one (j_fc cO hr (by omega) rfl (L2N.passAt (L2N.takes_of rfl rfl rfl rfl)) (ja_cons (jv 3) (ja_cons (j_gtup (by rfl) gRests kRests) ja_nil)))))))))) ?_ ?_)
  · intro ds S Q E h
    obtain ⟨a, b, c, d, rfl, _⟩ := opt_four h
    rfl
  · intro ds S Q E h
    obtain ⟨a, b, c, d, rfl, ⟨ha, hb, hc, hd⟩, q⟩ := opt_four h
    simp_arith [spMost, spOneOf]
    simp only [isLimitB] at q
    refine ⟨ha, hows, rfl, ?_⟩
    cases h1 : isOneOf hows a with
    | false => rw [h1] at q; simp_arith; exact q
    | true =>
      rw [h1] at q
      simp_arith
      refine ⟨hb, 20, rfl, ?_⟩
      cases h2 : isMost 20 b with
      | false => rw [h2] at q; simp_arith; exact q
      | true =>
        rw [h2] at q
        simp_arith
        refine ⟨hc, limits, rfl, ?_⟩
        cases h3 : isOneOf limits c with
        | false => rw [h3] at q; simp_arith; exact q
        | true =>
          rw [h3] at q
          simp_arith
          exact ⟨hd, rests, rfl, q⟩
theorem d_options (D : Dfn K mg "are_options" s_options ["thing"] f fd) (T : Bn mg) (cO : Fnc P w K mg base 3 "is_option" (upSp ⟨K, cA⟩ spOption)) : Fnc P w K mg base 4 "are_options" (upSp ⟨K, cA⟩ spOptions) := by
  refine D.fnc (def_ok (k := 3) D.F sc_options (fun cdv A outer s H E hr => (js_cons (js_if (JW.jt (jw_or (jt_not (jt_val (j_callB (kcall_isi K) cs_isi (by rfl) T.isinstance (by decide +kernel) (ja_cons (jv 0) (ja_cons (j_gty (T := "tuple") (by rfl) T.tuple (by decide +kernel)) ja_nil))))) (jw_or1 (jt_not (jt_chain op_le op_le os_le os_le j_int (j_callB (kcall_len_seq K) cs_len (by rfl) T.len (by decide +kernel) (ja_cons (jv 0) ja_nil)) j_int)))))
      (js_one (js_ret j_bl))
      js_nil)
    (js_cons (js_set (i := 1) sc_options.nd rfl (Or.inl rfl) (j_neg j_int))
    (js_cons (js_for (vs := [0, 1, 2]) (gl_name (i := 2) (by decide)) (passes_of rfl) rfl (ji_seq (jv 0)) (pg_name (i := 2) sc_options.nd rfl (Or.inl rfl))
      (js_cons (js_if (jt_not (jt_val (j_fc cO hr (by omega) rfl (L2N.passAt (L2N.takes_of rfl rfl rfl rfl)) (ja_cons (jv 2) (ja_cons (jv 1) ja_nil)))))
        (js_one (js_ret j_bl))
        js_nil)
      (js_one (js_set (i := 1) sc_options.nd rfl (Or.inl rfl) (j_ix (kix_lt K) os_ix (jv 2) j_int (fun _ _ => rfl))))))
    (js_one (js_ret j_bl)))))) ?_ ?_)
  · intro ds S Q E h
    obtain ⟨a, rfl, _⟩ := opt_one h
    rfl
  · intro ds S Q E h
    obtain ⟨d, rfl, hd, q⟩ := opt_one h
    cases d <;> first
      | (simp [isPd] at hd; done)
      | (simp_arith; exact q)
      | skip
    rename_i os
    simp only [areOpts] at q
    simp_arith
    have hm := isPds_mem (xs := os) hd
    by_cases h1 : 1 ≤ os.length
    · rw [if_pos (by omega)]
      by_cases h2 : os.length ≤ 6
      · rw [if_neg (by omega)]
        rw [decide_eq_true h1, decide_eq_true h2] at q
        refine forX_by (fun r ρ S' => ∃ (last : Int) (o : Option A.D), S' = S ∧ ρ = [some (.tup os), some (.int last), o] ∧ (∀ x ∈ r, isPd x = true) ∧ Q (.bl (optsB last r)) S) ?_ ?_ ⟨-1, none, rfl, rfl, hm, by simpa using q⟩
        · rintro ρ S' ⟨last, o, rfl, rfl, _, q⟩
          simp_arith
          exact q
        · rintro x r ρ S' ⟨last, o, rfl, rfl, hr', q⟩ F hF
          simp_arith [spOption]
          refine ⟨hr' x (by simp), last, rfl, ?_⟩
          simp only [optsB] at q
          cases hb : isOptB last x with
          | false => rw [hb] at q; simp_arith; simpa using q
          | true =>
            rw [hb] at q
            simp_arith
            unfold isOptB at hb
            split at hb
            · rename_i n y
              have hn : ∃ i, n = .int i := by cases n <;> simp [isBetw] at hb; exact ⟨_, rfl⟩
              obtain ⟨i, rfl⟩ := hn
              simp_arith
              exact hF _ _ ⟨i, _, rfl, rfl, fun x hx => hr' x (by simp [hx]), by simpa [optNum] using q⟩
            · cases hb
      · rw [if_pos (by omega)]
        rw [decide_eq_true h1, decide_eq_false h2] at q
        simpa using q
    · rw [if_neg (by omega)]
      rw [decide_eq_false h1] at q
      simpa using q
theorem dat_tup {xs : List A.D} (h : dat (.tup xs) = true) : isPds xs = true := (dat_iff h).1
theorem lens_cases {k : Str} {n : Int} (h : lens.lookup k = some n) : (k = "cell" ∧ n = 4) ∨ (k = "row" ∧ n = 2) ∨ (k = "choice" ∧ n = 3) ∨ (k = "times" ∧ n = 3) ∨ (k = "counted" ∧ n = 5) ∨ (k = "within" ∧ n = 6) ∨ (k = "fill" ∧ n = 2) ∨ (k = "if left" ∧ n = 2) ∨ (k = "need" ∧ n = 2) ∨ (k = "pad" ∧ n = 3) := by
  have key : ∀ {l : List (Str × Int)}, l.lookup k = some n → (k, n) ∈ l := by
    intro l
    induction l with
    | nil => intro h; simp at h
    | cons p l ih =>
      obtain ⟨a, b⟩ := p
      intro h
      rw [List.lookup_cons] at h
      cases e : k == a with
      | true => rw [e] at h; cases h; rw [eq_of_beq e]; exact List.mem_cons_self
      | false => rw [e] at h; exact List.mem_cons_of_mem _ (ih h)
  have m := key h
  simpa [lens] using m
theorem d_form (D : Dfn K mg "has_form" s_form ["thing"] f fd) (T : Bn mg) (M : Cst K w mg aH aL aR aM) (cB : Fnc P w K mg base 2 "is_between" (upSp ⟨K, cA⟩ spBetw)) (cO : Fnc P w K mg base 1 "is_one_of" (upSp ⟨K, cA⟩ spOneOf)) (cM : Fnc P w K mg base 3 "is_most" (upSp ⟨K, cA⟩ spMost))
    (cC : Fnc P w K mg base 3 "is_cell" (upSp ⟨K, cA⟩ spIcell)) (cA1 : Fnc P w K mg base 4 "are_options" (upSp ⟨K, cA⟩ spOptions)) (cL : Fnc P w K mg base 4 "is_limit" (upSp ⟨K, cA⟩ spIlimit)) : Fnc P w K mg base 5 "has_form" (upSp ⟨K, cA⟩ spForm) := by
  have gHows := M.gHows
  have kHows := M.kHows
  have gLengths := M.gLens
  have hL := M.kLens
  refine D.fnc (def_ok (k := 4) D.F sc_form (fun cdv A outer s H E hr => (js_cons (js_if (JW.jt (jw_or (jt_not (jt_val (j_callB (kcall_isi K) cs_isi (by rfl) T.isinstance (by decide +kernel) (ja_cons (jv 0) (ja_cons (j_gty (T := "tuple") (by rfl) T.tuple (by decide +kernel)) ja_nil))))) (jw_or (jt_cmp (op_eqA K hr.units) os_eq (jv 0) (j_tup ja_nil) (nomark _)) (jw_or1 (jt_not (jt_val (j_callB (kcall_isi K) cs_isi (by rfl) T.isinstance (by decide +kernel) (ja_cons (j_ix (kix_lt K) os_ix (jv 0) j_int (fun _ _ => rfl)) (ja_cons (j_gty (T := "str") (by rfl) T.str (by decide +kernel)) ja_nil)))))))))
      (js_one (js_ret j_bl))
      js_nil)
    (js_cons (js_if (JW.jt (jw_or (jt_cmp (op_kdNotIn (m := lens)) (os_kdIn hL) (j_ix (kix_lt K) os_ix (jv 0) j_int (fun _ _ => rfl)) (j_gadr (by rfl) gLengths) rfl) (jw_or1 (jt_cmp (op_neA K hr.units) os_ne (j_callB (kcall_len_seq K) cs_len (by rfl) T.len (by decide +kernel) (ja_cons (jv 0) ja_nil)) (j_ix ix_kdict (os_kdGet hL) (j_gadr (by rfl) gLengths) (j_ix (kix_lt K) os_ix (jv 0) j_int (fun _ _ => rfl)) (fun _ _ => rfl)) (nomark _)))))
      (js_one (js_ret j_bl))
      js_nil)
    (js_one (js_match (j_ix (kix_lt K) os_ix (jv 0) j_int (fun _ _ => rfl))
      (jc_cons pp_val (js_one (js_ret (j_fc cC hr (by omega) rfl (L2N.passAt (L2N.takes_of rfl rfl rfl rfl)) (ja_cons (j_ix (kix_lt K) os_ix (jv 0) j_int (fun _ _ => rfl)) (ja_cons (j_ix (kix_lt K) os_ix (jv 0) j_int (fun _ _ => rfl)) (ja_cons (j_ix (kix_lt K) os_ix (jv 0) j_int (fun _ _ => rfl)) ja_nil))))))
      (jc_cons pp_val (js_one (js_ret (j_and (j_callB (kcall_isi K) cs_isi (by rfl) T.isinstance (by decide +kernel) (ja_cons (j_ix (kix_lt K) os_ix (jv 0) j_int (fun _ _ => rfl)) (ja_cons (j_gty (T := "tuple") (by rfl) T.tuple (by decide +kernel)) ja_nil))) (j_one (j_cmp op_le os_le (j_callB (kcall_len_seq K) cs_len (by rfl) T.len (by decide +kernel) (ja_cons (j_ix (kix_lt K) os_ix (jv 0) j_int (fun _ _ => rfl)) ja_nil)) j_int (nomark _))))))
      (jc_cons pp_val (js_one (js_ret (j_and (j_fc cO hr (by omega) rfl (L2N.passAt (L2N.takes_of rfl rfl rfl rfl)) (ja_cons (j_ix (kix_lt K) os_ix (jv 0) j_int (fun _ _ => rfl)) (ja_cons (j_gtup (by rfl) gHows kHows) ja_nil))) (j_one (j_fc cA1 hr (by omega) rfl (L2N.passAt (L2N.takes_of rfl rfl rfl rfl)) (ja_cons (j_ix (kix_lt K) os_ix (jv 0) j_int (fun _ _ => rfl)) ja_nil))))))
      (jc_cons pp_val (js_one (js_ret (j_fc cB hr (by omega) rfl (L2N.passAt (L2N.takes_of rfl rfl rfl rfl)) (ja_cons (j_ix (kix_lt K) os_ix (jv 0) j_int (fun _ _ => rfl)) (ja_cons j_int (ja_cons j_int ja_nil))))))
      (jc_cons pp_val (js_one (js_ret (j_and (j_fc cO hr (by omega) rfl (L2N.passAt (L2N.takes_of rfl rfl rfl rfl)) (ja_cons (j_ix (kix_lt K) os_ix (jv 0) j_int (fun _ _ => rfl)) (ja_cons (j_gtup (by rfl) gHows kHows) ja_nil))) (j_and (j_fc cM hr (by omega) rfl (L2N.passAt (L2N.takes_of rfl rfl rfl rfl)) (ja_cons (j_ix (kix_lt K) os_ix (jv 0) j_int (fun _ _ => rfl)) (ja_cons j_int ja_nil))) (j_one (j_fc cM hr (by omega) rfl (L2N.passAt (L2N.takes_of rfl rfl rfl rfl)) (ja_cons (j_ix (kix_lt K) os_ix (jv 0) j_int (fun _ _ => rfl)) (ja_cons j_int ja_nil))))))))
      (jc_cons pp_val (js_one (js_ret (j_fc cL hr (by omega) rfl (L2N.passAt (L2N.takes_of rfl rfl rfl rfl)) (ja_cons (j_ix (kix_lt K) os_ix (jv 0) j_int (fun _ _ => rfl)) (ja_cons (j_ix (kix_lt K) os_ix (jv 0) j_int (fun _ _ => rfl)) (ja_cons (j_ix (kix_lt K) os_ix (jv 0) j_int (fun _ _ => rfl)) (ja_cons (j_ix (kix_lt K) os_ix (jv 0) j_int (fun _ _ => rfl)) ja_nil)))))))
      (jc_cons pp_val (js_one (js_ret (j_fc cB hr (by omega) rfl (L2N.passAt (L2N.takes_of rfl rfl rfl rfl)) (ja_cons (j_ix (kix_lt K) os_ix (jv 0) j_int (fun _ _ => rfl)) (ja_cons j_int (ja_cons j_int ja_nil))))))
      (jc_cons pp_val (js_one (js_ret (j_and (j_fc cB hr (by omega) rfl (L2N.passAt (L2N.takes_of rfl rfl rfl rfl)) (ja_cons (j_ix (kix_lt K) os_ix (jv 0) j_int (fun _ _ => rfl)) (ja_cons j_int (ja_cons j_int ja_nil)))) (j_one (j_fc cO hr (by omega) rfl (L2N.passAt (L2N.takes_of rfl rfl rfl rfl)) (ja_cons (j_ix (kix_lt K) os_ix (jv 0) j_int (fun _ _ => rfl)) (ja_cons (j_gtup (by rfl) gHows kHows) ja_nil)))))))
      (jc_any (js_one (js_ret j_bl)))))))))))))))) ?_ ?_)
  · intro ds S Q E h
    obtain ⟨a, rfl, _⟩ := opt_one h
    rfl
  · intro ds S Q E h
    obtain ⟨d, rfl, hd, q⟩ := opt_one h
    have hp := (dat_iff hd).1
    cases d <;> first
      | (simp [isPd] at hp; done)
      | (simp_arith; exact q)
      | skip
    rename_i xs
    have hm := isPds_mem (xs := xs) hp
    simp_arith [hd, eqv_nil, show dat (.tup []) = true from by decide +kernel]
    match xs, hm, q with
    | [], _, q => simp_arith; exact q
    | x :: fs, hm, q =>
      have hx := hm x (by simp)
      cases x <;> first
        | (simp [isPd] at hx; done)
        | (simp_arith; exact q)
        | skip
      rename_i k
      simp only [hasForm] at q
      simp_arith
      cases e : lens.lookup k with
      | none => rw [e] at q; simp_arith [Option.isSome_none]; simpa using q
      | some m =>
        rw [e] at q
        simp_arith [Option.isSome_some]
        by_cases hl : ((fs.length : Nat) : Int) + 1 = m
        · have hl' : ((fs.length + 1 : Nat) : Int) = m := by omega
          rw [if_neg (by simpa using hl')]
          rw [hl] at q
          simp only [decide_true, Bool.true_and] at q
          have hf : ∀ y ∈ fs, isPd y = true := fun y hy => hm y (by simp [hy])
          rcases lens_cases e with ⟨rfl, rfl⟩ | ⟨rfl, rfl⟩ | ⟨rfl, rfl⟩ | ⟨rfl, rfl⟩ | ⟨rfl, rfl⟩ | ⟨rfl, rfl⟩ | ⟨rfl, rfl⟩ | ⟨rfl, rfl⟩ | ⟨rfl, rfl⟩ | ⟨rfl, rfl⟩
          · obtain ⟨a, b, c, rfl⟩ := fsn3 hl
            simp_arith [spIcell]
            exact ⟨⟨hf a (by simp), hf b (by simp), hf c (by simp)⟩, by simpa [formB] using q⟩
          · obtain ⟨a, rfl⟩ := fsn1 hl
            have ha := hf a (by simp)
            cases a <;> first
              | (simp [isPd] at ha; done)
              | (simp_arith; simpa [formB, rowB, ofString_inj] using q)
          · obtain ⟨a, b, rfl⟩ := fsn2 hl
            simp_arith [spOneOf, spOptions]
            simp only [formB, ofString_inj, String.reduceEq, if_false, if_true, List.getD_cons_zero, List.getD_cons_succ] at q
            refine ⟨hf a (by simp), hows, rfl, ?_⟩
            cases h1 : isOneOf hows a with
            | false => rw [h1] at q; simp_arith; simpa using q
            | true => rw [h1] at q; simp_arith; exact ⟨hf b (by simp), by simpa using q⟩
          · obtain ⟨a, b, rfl⟩ := fsn2 hl
            simp_arith [spBetw]
            exact ⟨hf a (by simp), 0, 6, rfl, by simpa [formB, ofString_inj] using q⟩
          · obtain ⟨a, b, c, d, rfl⟩ := fsn4 hl
            simp_arith [spOneOf, spMost]
            simp only [formB, ofString_inj, String.reduceEq, if_false, if_true, List.getD_cons_zero, List.getD_cons_succ] at q
            refine ⟨hf a (by simp), hows, rfl, ?_⟩
            cases h1 : isOneOf hows a with
            | false => rw [h1] at q; simp_arith; simpa using q
            | true =>
              rw [h1] at q
              simp_arith
              refine ⟨hf b (by simp), 9, rfl, ?_⟩
              cases h2 : isMost 9 b with
              | false => rw [h2] at q; simp_arith; simpa using q
              | true => rw [h2] at q; simp_arith; exact ⟨hf c (by simp), 9, rfl, by simpa using q⟩
          · obtain ⟨a, b, c, d, e', rfl⟩ := fsn5 hl
            simp_arith [spIlimit]
            exact ⟨⟨hf a (by simp), hf b (by simp), hf c (by simp), hf d (by simp)⟩, by simpa [formB, ofString_inj] using q⟩
          · simp_arith; simpa [formB, ofString_inj] using q
          · simp_arith; simpa [formB, ofString_inj] using q
          · obtain ⟨a, rfl⟩ := fsn1 hl
            simp_arith [spBetw]
            exact ⟨hf a (by simp), 1, 9, rfl, by simpa [formB, ofString_inj] using q⟩
          · obtain ⟨a, b, rfl⟩ := fsn2 hl
            simp_arith [spBetw, spOneOf]
            simp only [formB, ofString_inj, String.reduceEq, if_false, if_true, List.getD_cons_zero, List.getD_cons_succ] at q
            refine ⟨hf a (by simp), 2, 6, rfl, ?_⟩
            cases h1 : isBetw 2 6 a with
            | false => rw [h1] at q; simp_arith; simpa using q
            | true => rw [h1] at q; simp_arith; exact ⟨hf b (by simp), hows, rfl, by simpa using q⟩
        · have hl' : ¬ ((fs.length + 1 : Nat) : Int) = m := by omega
          rw [if_pos (by simpa using hl')]
          have : ¬ (some m = some (((fs.length : Nat) : Int) + 1)) := fun z => hl (Option.some.inj z).symm
          simpa [this] using q
end


/-! ### the parts of a part -/
def itsOf : A.D → List A.D
  | .tup xs => xs
  | _ => []
def optPart : A.D → A.D
  | .tup [_, p] => p
  | _ => .non
def lastD : List A.D → A.D
  | [] => .non
  | [a] => a
  | _ :: r => lastD r
def kidsD : A.D → List A.D
  | .tup (.str k :: fs) => if k = "row" then itsOf (fs.getD 0 .non) else if k = "choice" then (itsOf (fs.getD 1 .non)).map optPart else if k = "cell" ∨ k = "need" ∨ k = "pad" then [] else [lastD fs]
  | _ => []
/-- the shapes of what has the form of a part -/
inductive Shp : A.D → Prop
  | cell {a b c : A.D} (h : isCellB a b c = true) : Shp (.tup [.str "cell", a, b, c])
  | row {ps : List A.D} (h : ps.length ≤ 12) : Shp (.tup [.str "row", .tup ps])
  | choice {m : A.D} {os : List A.D} (hm : isOneOf hows m = true) (h : areOpts (.tup os) = true) : Shp (.tup [.str "choice", m, .tup os])
  | times {m : Int} {p : A.D} (h0 : 0 ≤ m) (h : m ≤ 6) : Shp (.tup [.str "times", .int m, p])
  | counted {m a b p : A.D} (hm : isOneOf hows m = true) (ha : isMost 9 a = true) (hb : isMost 9 b = true) : Shp (.tup [.str "counted", m, a, b, p])
  | within {m a l r p : A.D} (h : isLimitB m a l r = true) : Shp (.tup [.str "within", m, a, l, r, p])
  | fill {p : A.D} : Shp (.tup [.str "fill", p])
  | ifleft {p : A.D} : Shp (.tup [.str "if left", p])
  | need {m : Int} (h0 : 1 ≤ m) (h : m ≤ 9) : Shp (.tup [.str "need", .int m])
  | pad {m : Int} {a : A.D} (h0 : 2 ≤ m) (h : m ≤ 6) (ha : isOneOf hows a = true) : Shp (.tup [.str "pad", .int m, a])
theorem betw_int {lo hi : Int} {d : A.D} (h : isBetw lo hi d = true) : ∃ i, d = .int i ∧ lo ≤ i ∧ i ≤ hi := by
  cases d <;> simp [isBetw] at h
  exact ⟨_, rfl, h⟩
theorem shp_of {d : A.D} (h : hasForm d = true) : Shp d := by
  unfold hasForm at h
  split at h
  · rename_i k fs
    simp only [Bool.and_eq_true, decide_eq_true_eq] at h
    obtain ⟨e, hf⟩ := h
    rcases lens_cases e with ⟨rfl, hl⟩ | ⟨rfl, hl⟩ | ⟨rfl, hl⟩ | ⟨rfl, hl⟩ | ⟨rfl, hl⟩ | ⟨rfl, hl⟩ | ⟨rfl, hl⟩ | ⟨rfl, hl⟩ | ⟨rfl, hl⟩ | ⟨rfl, hl⟩
    · obtain ⟨a, b, c, rfl⟩ := fsn3 hl
      exact .cell (by simpa [formB] using hf)
    · obtain ⟨a, rfl⟩ := fsn1 hl
      simp [formB, ofString_inj] at hf
      cases a <;> simp [rowB] at hf
      exact .row (by omega)
    · obtain ⟨a, b, rfl⟩ := fsn2 hl
      simp [formB, ofString_inj] at hf
      cases b <;> simp [areOpts] at hf
      exact .choice hf.1 (by simp [areOpts, hf.2])
    · obtain ⟨a, b, rfl⟩ := fsn2 hl
      simp [formB, ofString_inj] at hf
      obtain ⟨i, rfl, h1, h2⟩ := betw_int hf
      exact .times h1 h2
    · obtain ⟨a, b, c, d, rfl⟩ := fsn4 hl
      simp [formB, ofString_inj] at hf
      exact .counted hf.1 hf.2.1 hf.2.2
    · obtain ⟨a, b, c, d, e', rfl⟩ := fsn5 hl
      simp [formB, ofString_inj] at hf
      exact .within hf
    · obtain ⟨a, rfl⟩ := fsn1 hl
      exact .fill
    · obtain ⟨a, rfl⟩ := fsn1 hl
      exact .ifleft
    · obtain ⟨a, rfl⟩ := fsn1 hl
      simp [formB, ofString_inj] at hf
      obtain ⟨i, rfl, h1, h2⟩ := betw_int hf
      exact .need h1 h2
    · obtain ⟨a, b, rfl⟩ := fsn2 hl
      simp [formB, ofString_inj] at hf
      obtain ⟨i, rfl, h1, h2⟩ := betw_int hf.1
      exact .pad h1 h2 hf.2
  · cases h
theorem opts_mem : ∀ {os : List A.D} {last : Int}, optsB last os = true → ∀ o ∈ os, ∃ (i : Int) (p : A.D), o = .tup [.int i, p]
  | [], _, _, o, ho => by simp at ho
  | x :: r, last, h, o, ho => by
    simp only [optsB, Bool.and_eq_true] at h
    rcases List.mem_cons.mp ho with rfl | ho
    · have hb := h.1
      unfold isOptB at hb
      split at hb
      · obtain ⟨i, rfl, _⟩ := betw_int hb
        exact ⟨i, _, rfl⟩
      · cases hb
    · exact opts_mem h.2 o ho
theorem areOpts_mem {os : List A.D} (h : areOpts (.tup os) = true) : (∀ o ∈ os, ∃ (i : Int) (p : A.D), o = .tup [.int i, p]) ∧ 1 ≤ os.length ∧ os.length ≤ 6 := by
  simp only [areOpts, Bool.and_eq_true, decide_eq_true_eq] at h
  exact ⟨opts_mem h.2, h.1⟩
abbrev s_children : Stmt := (topS 36)
theorem sc_children : FnScope ["part", "number", "inner"] ["part"] (defScope s_children) := ⟨rfl, rfl, rfl, by decide +kernel, rfl, by decide +kernel, by decide +kernel⟩
def spKids : ASp := fun ds S Q _ => opt (one1 ds) fun d => Shp d ∧ Q (.lst (kidsD d)) S
theorem kids_row {ps : List A.D} : kidsD (.tup [.str "row", .tup ps]) = ps := by simp [kidsD, itsOf]
theorem kids_choice {m : A.D} {os : List A.D} : kidsD (.tup [.str "choice", m, .tup os]) = os.map optPart := by simp [kidsD, itsOf, ofString_inj]
theorem kids_cell {a b c : A.D} : kidsD (.tup [.str "cell", a, b, c]) = [] := by simp [kidsD, ofString_inj]
theorem kids_need {a : A.D} : kidsD (.tup [.str "need", a]) = [] := by simp [kidsD, ofString_inj]
theorem kids_pad {a b : A.D} : kidsD (.tup [.str "pad", a, b]) = [] := by simp [kidsD, ofString_inj]
theorem kids_times {a p : A.D} : kidsD (.tup [.str "times", a, p]) = [p] := by simp [kidsD, ofString_inj, lastD]
theorem kids_counted {a b c p : A.D} : kidsD (.tup [.str "counted", a, b, c, p]) = [p] := by simp [kidsD, ofString_inj, lastD]
theorem kids_within {a b c d p : A.D} : kidsD (.tup [.str "within", a, b, c, d, p]) = [p] := by simp [kidsD, ofString_inj, lastD]
theorem kids_fill {p : A.D} : kidsD (.tup [.str "fill", p]) = [p] := by simp [kidsD, ofString_inj, lastD]
theorem kids_ifleft {p : A.D} : kidsD (.tup [.str "if left", p]) = [p] := by simp [kidsD, ofString_inj, lastD]
section
variable {P : Program} {w : World} {K : PySem.W.Frag} {cA : Str → Addr} {mg : Str → Option Value} {base : Heap} {f aH aL aR aM : Addr} {fd : FuncData}
theorem d_children (D : Dfn K mg "children" s_children ["part"] f fd) (T : Bn mg) : Fnc P w K mg base 1 "children" (upSp ⟨K, cA⟩ spKids) := by
  refine D.fnc (def_ok (k := 0) D.F sc_children (fun cdv A outer s H E hr => (js_one (js_match (j_ix (kix_lt K) os_ix (jv 0) j_int (fun _ _ => rfl))
      (jc_cons pp_val (js_one (js_ret (j_callTy (kcall_list_of K) cs_list (by rfl) T.list (by decide +kernel) (ja_cons (j_ix (kix_lt K) os_ix (jv 0) j_int (fun _ _ => rfl)) ja_nil))))
      (jc_cons pp_val (js_one (js_ret (j_lc (own := [("number", 1), ("inner", 2)]) (tt := aYes) (by rfl) sc_children.nd (gl_tup (m := 2) (gls_cons (gl_name (i := 1) (by decide)) (gls_cons (gl_name (i := 2) (by decide)) gls_nil))) (ji_seq (j_ix (kix_lt K) os_ix (jv 0) j_int (fun _ _ => rfl))) (blkOk_by (own := [("number", 1), ("inner", 2)]) (N := ["part", "number", "inner"]) (sc := defScope s_children) (by decide +kernel)) (fun _ _ _ _ _ => (kpg_tup K (n := 2) rfl (pgs_cons (pg_name (i := 1) sc_children.nd rfl (Or.inl rfl)) (pgs_cons (pg_name (i := 2) sc_children.nd rfl (Or.inl rfl)) pgs_nil)))) (fun _ _ _ _ _ => jts_nil) (fun _ _ _ _ _ => (jv 2)))))
      (jc_cons (pp_or (pf_cons pp_val (pf_cons pp_val (pf_cons pp_val pf_nil)))) (js_one (js_ret (j_lst ja_nil)))
      (jc_any (js_one (js_ret (j_lst (ja_cons (j_ix (kix_lt K) os_ix (jv 0) (j_neg j_int) (fun _ _ => rfl)) ja_nil))))))))))) ?_ ?_)
  · intro ds S Q E h
    obtain ⟨a, rfl, _⟩ := opt_one h
    rfl
  · intro ds S Q E h
    obtain ⟨d, rfl, hd, q⟩ := opt_one h
    cases hd with
    | cell h => rw [kids_cell] at q; simp_arith; exact q
    | row h => rw [kids_row] at q; simp_arith; exact q
    | choice hm ho =>
      rw [kids_choice] at q
      obtain ⟨h1, h2, h3⟩ := areOpts_mem ho
      simp_arith
      refine lcX_map (fun _ => true) optPart (by omega) (fun x hx Y F hY _ => ?_) (by rw [filter_all]; exact q)
      obtain ⟨i, p, rfl⟩ := h1 x hx
      simp_arith
      exact hY rfl
    | times h0 h => rw [kids_times] at q; simp_arith; exact q
    | counted => rw [kids_counted] at q; simp_arith; exact q
    | within => rw [kids_within] at q; simp_arith; exact q
    | fill => rw [kids_fill] at q; simp_arith; exact q
    | ifleft => rw [kids_ifleft] at q; simp_arith; exact q
    | need => rw [kids_need] at q; simp_arith; exact q
    | pad => rw [kids_pad] at q; simp_arith; exact q
end


/-! ### what goes down a part -/
theorem mem_getD {fs : List A.D} {i : Nat} : fs.getD i .non ∈ fs ∨ fs.getD i .non = .non := by
  rw [List.getD_eq_getElem?_getD]
  cases h : fs[i]? with
  | none => exact .inr rfl
  | some x => exact .inl (List.mem_of_getElem? h)
theorem its_lt {d c : A.D} (h : c ∈ itsOf d) : sizeOf c < sizeOf d := by
  cases d <;> simp [itsOf] at h
  have := List.sizeOf_lt_of_mem h
  simp
  omega
theorem optPart_le {o : A.D} : sizeOf (optPart o) ≤ sizeOf o := by
  unfold optPart
  split
  · simp; omega
  · cases o <;> simp <;> omega
theorem lastD_mem : ∀ {fs : List A.D}, lastD fs ∈ fs ∨ lastD fs = .non
  | [] => .inr rfl
  | [a] => .inl (by simp [lastD])
  | a :: b :: r => by
    rcases lastD_mem (fs := b :: r) with h | h
    · exact .inl (List.mem_cons_of_mem _ (by simpa [lastD] using h))
    · exact .inr (by simpa [lastD] using h)
theorem non_size : sizeOf A.D.non = 1 := rfl
theorem kids_lt {d c : A.D} (h : c ∈ kidsD d) : sizeOf c < sizeOf d := by
  unfold kidsD at h
  split at h
  · rename_i k fs
    have hf : ∀ x ∈ fs, sizeOf x < sizeOf fs := fun x hx => List.sizeOf_lt_of_mem hx
    have tl : sizeOf fs + 3 ≤ sizeOf (A.D.tup (.str k :: fs)) := by
      simp
      omega
    have big : 3 < sizeOf (A.D.tup (.str k :: fs)) := by
      have : 1 ≤ sizeOf fs := by cases fs <;> simp <;> omega
      omega
    have gd : ∀ i, sizeOf (fs.getD i .non) + 2 < sizeOf (A.D.tup (.str k :: fs)) := fun i => by
      rcases mem_getD (fs := fs) (i := i) with m | m
      · have := hf _ m; omega
      · rw [m, non_size]; omega
    split at h
    · have := its_lt h
      have := gd 0
      omega
    · split at h
      · obtain ⟨o, ho, rfl⟩ := List.mem_map.mp h
        have h1 := its_lt ho
        have h2 := gd 1
        have h3 := optPart_le (o := o)
        omega
      · split at h
        · simp at h
        · simp at h
          subst h
          rcases lastD_mem (fs := fs) with m | m
          · have := hf _ m; omega
          · rw [m, non_size]; omega
  · simp at h
/-- a part, at most n deep by its form -/
inductive Pw : Nat → A.D → Prop
  | mk {n : Nat} {d : A.D} (h : Shp d) (hk : ∀ c ∈ kidsD d, Pw n c) : Pw (n + 1) d
theorem Pw.shp {n : Nat} {d : A.D} (h : Pw n d) : Shp d := by cases h; assumption
theorem Pw.kid {n : Nat} {d c : A.D} (h : Pw (n + 1) d) (hc : c ∈ kidsD d) : Pw n c := by
  cases h with
  | mk _ hk => exact hk c hc
theorem kids_len {d : A.D} (h : Shp d) : (kidsD d).length ≤ 12 := by
  cases h with
  | cell => rw [kids_cell]; simp
  | row h => rw [kids_row]; exact h
  | choice hm h => rw [kids_choice]; simp; have := (areOpts_mem h).2.2; omega
  | times => rw [kids_times]; simp
  | counted => rw [kids_counted]; simp
  | within => rw [kids_within]; simp
  | fill => rw [kids_fill]; simp
  | ifleft => rw [kids_ifleft]; simp
  | need => rw [kids_need]; simp
  | pad => rw [kids_pad]; simp
def kdOf : A.D → Str
  | .tup (.str k :: _) => k
  | _ => Str.empty
def fldOf (d : A.D) (i : Nat) : A.D := (itsOf d).getD i .non
def sizeB (k : Str) (m : Int) (ss : List (Option Int)) : Option Int :=
  if k ∈ (["counted", "within", "fill", "if left", "pad"] : List Str) ∨ none ∈ ss then none
  else if k = "cell" then some 1
  else if k = "choice" then (if ss.all (fun s => decide (s = ss.headD none)) then some (1 + (ss.headD none).getD 0) else none)
  else if k = "times" then some (m * (ss.headD none).getD 0)
  else some ((ss.map (·.getD 0)).sum)
/-- the cells that a part always reads -/
def sizeP (d : A.D) : Option Int := sizeB (kdOf d) (numOf (fldOf d 1)) ((kidsD d).attach.map fun c => sizeP c.1)
termination_by sizeOf d
decreasing_by exact kids_lt c.2
def asksP (d : A.D) : Bool := (decide (kdOf d = "within") || decide (kdOf d = "need") || (decide (kdOf d = "counted") && (match fldOf d 3 with | .non => false | _ => true))) || ((kidsD d).attach.map fun c => asksP c.1).any id
termination_by sizeOf d
decreasing_by exact kids_lt c.2
def countP (d : A.D) : Int := 1 + ((kidsD d).attach.map fun c => countP c.1).sum
termination_by sizeOf d
decreasing_by exact kids_lt c.2
def unrollP (d : A.D) : Int := 1 + (if kdOf d = "times" then numOf (fldOf d 1) else 1) * ((kidsD d).attach.map fun c => unrollP c.1).sum
termination_by sizeOf d
decreasing_by exact kids_lt c.2
theorem attach_map {α : Type} (xs : List A.D) (f : A.D → α) : (xs.attach.map fun c => f c.1) = xs.map f := by
  conv => rhs; rw [← List.attach_map_subtype_val xs, List.map_map]
  rfl
theorem sizeP_eq (d : A.D) : sizeP d = sizeB (kdOf d) (numOf (fldOf d 1)) ((kidsD d).map sizeP) := by rw [sizeP, attach_map (kidsD d) sizeP]
theorem asksP_eq (d : A.D) : asksP d = ((decide (kdOf d = "within") || decide (kdOf d = "need") || (decide (kdOf d = "counted") && (match fldOf d 3 with | .non => false | _ => true))) || ((kidsD d).map asksP).any id) := by
  rw [asksP, attach_map (kidsD d) asksP]
theorem countP_eq (d : A.D) : countP d = 1 + ((kidsD d).map countP).sum := by rw [countP, attach_map (kidsD d) countP]
theorem unrollP_eq (d : A.D) : unrollP d = 1 + (if kdOf d = "times" then numOf (fldOf d 1) else 1) * ((kidsD d).map unrollP).sum := by rw [unrollP, attach_map (kidsD d) unrollP]
abbrev s_size : Stmt := (topS 37)
theorem sc_size : FnScope ["part", "sizes", "inner", "size"] ["part"] (defScope s_size) := ⟨rfl, rfl, rfl, by decide +kernel, rfl, by decide +kernel, by decide +kernel⟩
abbrev s_asks : Stmt := (topS 38)
theorem sc_asks : FnScope ["part", "inner"] ["part"] (defScope s_asks) := ⟨rfl, rfl, rfl, by decide +kernel, rfl, by decide +kernel, by decide +kernel⟩
abbrev s_count : Stmt := (topS 40)
theorem sc_count : FnScope ["part", "inner"] ["part"] (defScope s_count) := ⟨rfl, rfl, rfl, by decide +kernel, rfl, by decide +kernel, by decide +kernel⟩
abbrev s_unroll : Stmt := (topS 41)
theorem sc_unroll : FnScope ["part", "found", "inner"] ["part"] (defScope s_unroll) := ⟨rfl, rfl, rfl, by decide +kernel, rfl, by decide +kernel, by decide +kernel⟩
def oI : Option Int → A.D
  | none => .non
  | some i => .int i
def spSize (n : Nat) : ASp := fun ds S Q _ => opt (one1 ds) fun d => Pw n d ∧ Q (oI (sizeP d)) S
def spAsks (n : Nat) : ASp := fun ds S Q _ => opt (one1 ds) fun d => Pw n d ∧ Q (.bl (asksP d)) S
def spCount (n : Nat) : ASp := fun ds S Q _ => opt (one1 ds) fun d => Pw n d ∧ Q (.int (countP d)) S
def spUnroll (n : Nat) : ASp := fun ds S Q _ => opt (one1 ds) fun d => Pw n d ∧ Q (.int (unrollP d)) S
section
variable {P : Program} {w : World} {K : PySem.W.Frag} {cA : Str → Addr} {mg : Str → Option Value} {base : Heap} {f aH aL aR aM : Addr} {fd : FuncData} {n : Nat}
theorem d_count (D : Dfn K mg "count_of" s_count ["part"] f fd) (T : Bn mg) (cC : Fnc P w K mg base 1 "children" (upSp ⟨K, cA⟩ spKids)) (cS : Fnc P w K mg base (n + 1) "count_of" (upSp ⟨K, cA⟩ (spCount n))) : Fnc P w K mg base (n + 2) "count_of" (upSp ⟨K, cA⟩ (spCount (n + 1))) := by
  refine D.fnc (def_ok (k := n + 1) D.F sc_count (fun cdv A outer s H E hr => (js_one (js_ret (j_op (op_addA K) os_add j_int (j_callB (kcr_sum K rfl rfl) cs_sum (by rfl) T.sum (by decide +kernel) (ja_cons (j_lc (own := [("inner", 1)]) (tt := aYes) (by rfl) sc_count.nd (gl_name (i := 1) (by decide)) (ji_seq (j_fc cC hr (by omega) rfl (L2N.passAt (L2N.takes_of rfl rfl rfl rfl)) (ja_cons (jv 0) ja_nil))) (blkOk_by (own := [("inner", 1)]) (N := ["part", "inner"]) (sc := defScope s_count) (by decide +kernel)) (fun _ _ _ _ _ => (pg_name (i := 1) sc_count.nd rfl (Or.inl rfl))) (fun _ _ _ _ _ => jts_nil) (fun _ _ _ _ _ => (j_fc cS hr (by omega) rfl (passN rfl rfl) (ja_cons (jv 1) ja_nil)))) ja_nil)))))) ?_ ?_)
  · intro ds S Q E h
    obtain ⟨a, rfl, _⟩ := opt_one h
    rfl
  · intro ds S Q E h
    obtain ⟨d, rfl, hd, q⟩ := opt_one h
    simp_arith [spKids, spCount]
    refine ⟨hd.shp, lcX_map (fun _ => true) (fun c => .int (countP c)) (Nat.le_trans (kids_len hd.shp) (by decide)) (fun x hx Y F hY _ => ?_) ?_⟩
    · simp_arith
      exact ⟨hd.kid hx, hY rfl⟩
    · rw [filter_all]
      have e : (kidsD d).map (fun c => A.D.int (countP c)) = ((kidsD d).map countP).map A.D.int := by simp
      rw [e]
      simp_arith [ints_map]
      rw [← countP_eq]
      exact q
theorem d_unroll (D : Dfn K mg "unrolled" s_unroll ["part"] f fd) (T : Bn mg) (cC : Fnc P w K mg base 1 "children" (upSp ⟨K, cA⟩ spKids)) (cS : Fnc P w K mg base (n + 1) "unrolled" (upSp ⟨K, cA⟩ (spUnroll n))) : Fnc P w K mg base (n + 2) "unrolled" (upSp ⟨K, cA⟩ (spUnroll (n + 1))) := by
  refine D.fnc (def_ok (k := n + 1) D.F sc_unroll (fun cdv A outer s H E hr => (js_cons (js_set (i := 1) sc_unroll.nd rfl (Or.inl rfl) (j_callB (kcr_sum K rfl rfl) cs_sum (by rfl) T.sum (by decide +kernel) (ja_cons (j_lc (own := [("inner", 2)]) (tt := aYes) (by rfl) sc_unroll.nd (gl_name (i := 2) (by decide)) (ji_seq (j_fc cC hr (by omega) rfl (L2N.passAt (L2N.takes_of rfl rfl rfl rfl)) (ja_cons (jv 0) ja_nil))) (blkOk_by (own := [("inner", 2)]) (N := ["part", "found", "inner"]) (sc := defScope s_unroll) (by decide +kernel)) (fun _ _ _ _ _ => (pg_name (i := 2) sc_unroll.nd rfl (Or.inl rfl))) (fun _ _ _ _ _ => jts_nil) (fun _ _ _ _ _ => (j_fc cS hr (by omega) rfl (passN rfl rfl) (ja_cons (jv 2) ja_nil)))) ja_nil)))
    (js_one (js_ret (j_if (jt_cmp (op_eqA K hr.units) os_eq (j_ix (kix_lt K) os_ix (jv 0) j_int (fun _ _ => rfl)) j_str (nomark _)) (j_op (op_addA K) os_add j_int (j_op (op_mulB K) os_mul (j_ix (kix_lt K) os_ix (jv 0) j_int (fun _ _ => rfl)) (jv 1))) (j_op (op_addA K) os_add j_int (jv 1))))))) ?_ ?_)
  · intro ds S Q E h
    obtain ⟨a, rfl, _⟩ := opt_one h
    rfl
  · intro ds S Q E h
    obtain ⟨d, rfl, hd, q⟩ := opt_one h
    simp_arith [spKids, spUnroll]
    refine ⟨hd.shp, lcX_map (fun _ => true) (fun c => .int (unrollP c)) (Nat.le_trans (kids_len hd.shp) (by decide)) (fun x hx Y F hY _ => ?_) ?_⟩
    · simp_arith
      exact ⟨hd.kid hx, hY rfl⟩
    · rw [filter_all]
      have e : (kidsD d).map (fun c => A.D.int (unrollP c)) = ((kidsD d).map unrollP).map A.D.int := by simp
      rw [e]
      simp_arith [ints_map]
      have q' : Q (.int (1 + (if kdOf d = "times" then numOf (fldOf d 1) else 1) * ((kidsD d).map unrollP).sum)) S := by rw [← unrollP_eq]; exact q
      cases hd.shp <;> first
        | (simp_arith; simpa [kdOf, ofString_inj] using q')
        | skip
      rename_i m p h0 h1
      simp_arith
      exact ⟨mulL (by omega), by simpa [kdOf, ofString_inj, fldOf, itsOf, numOf] using q'⟩
theorem d_asks (D : Dfn K mg "asks" s_asks ["part"] f fd) (T : Bn mg) (cC : Fnc P w K mg base 1 "children" (upSp ⟨K, cA⟩ spKids)) (cS : Fnc P w K mg base (n + 1) "asks" (upSp ⟨K, cA⟩ (spAsks n))) : Fnc P w K mg base (n + 2) "asks" (upSp ⟨K, cA⟩ (spAsks (n + 1))) := by
  refine D.fnc (def_ok (k := n + 1) D.F sc_asks (fun cdv A outer s H E hr => (js_cons (js_if (JW.jt (jw_or (jt_cmp (kop_in_seq K) (os_in (neg := false)) (j_ix (kix_lt K) os_ix (jv 0) j_int (fun _ _ => rfl)) (j_tup (ja_cons j_str (ja_cons j_str ja_nil))) rfl) (jw_or1 (JW.jt (jw_and (jt_cmp (op_eqA K hr.units) os_eq (j_ix (kix_lt K) os_ix (jv 0) j_int (fun _ _ => rfl)) j_str (nomark _)) (jw_and1 (jt_cmp op_notN os_isnt (j_ix (kix_lt K) os_ix (jv 0) j_int (fun _ _ => rfl)) j_non (nomark _))))))))
      (js_one (js_ret j_bl))
      js_nil)
    (js_one (js_ret (j_callB (cr_any rfl) cs_any (by rfl) T.any (by decide +kernel) (ja_cons (j_lc (own := [("inner", 1)]) (tt := aYes) (by rfl) sc_asks.nd (gl_name (i := 1) (by decide)) (ji_seq (j_fc cC hr (by omega) rfl (L2N.passAt (L2N.takes_of rfl rfl rfl rfl)) (ja_cons (jv 0) ja_nil))) (blkOk_by (own := [("inner", 1)]) (N := ["part", "inner"]) (sc := defScope s_asks) (by decide +kernel)) (fun _ _ _ _ _ => (pg_name (i := 1) sc_asks.nd rfl (Or.inl rfl))) (fun _ _ _ _ _ => jts_nil) (fun _ _ _ _ _ => (j_fc cS hr (by omega) rfl (passN rfl rfl) (ja_cons (jv 1) ja_nil)))) ja_nil)))))) ?_ ?_)
  · intro ds S Q E h
    obtain ⟨a, rfl, _⟩ := opt_one h
    rfl
  · intro ds S Q E h
    obtain ⟨d, rfl, hd, q⟩ := opt_one h
    clear h
    have q' : Q (.bl ((decide (kdOf d = "within") || decide (kdOf d = "need") || (decide (kdOf d = "counted") && (match fldOf d 3 with | .non => false | _ => true))) || ((kidsD d).map asksP).any id)) S := by rw [← asksP_eq]; exact q
    have hs := hd.shp
    have len := Nat.le_trans (kids_len hs) (show 12 ≤ 1000000 by decide)
    have kid : ∀ x ∈ kidsD d, Pw n x := fun x hx => hd.kid hx
    have fin : ∀ {Qs : List A.D → Sto → Prop}, Qs ((kidsD d).map fun c => A.D.bl (asksP c)) S → lcX (gN 1) aYes (aBind (aBind (aVar 1) fun x => aBind aNil fun xs x_1 S Q x_2 => Q (x :: xs) S) fun ds x S Q E => spAsks n ds S Q E) (wipeD [some d, none] [1]) Qs (kidsD d) [] S := by
      intro Qs hq
      refine lcX_map (fun _ => true) (fun c => .bl (asksP c)) len (fun x hx Y F hY _ => ?_) (by rw [filter_all]; exact hq)
      simp_arith [spAsks]
      exact ⟨kid x hx, hY rfl⟩
    have e : (kidsD d).map (fun c => A.D.bl (asksP c)) = ((kidsD d).map asksP).map A.D.bl := by simp
    rw [e] at fin
    cases hs with
    | counted hm ha hb =>
      rename_i m a b p
      cases b <;> first
        | (simp_arith; simpa [kdOf, ofString_inj, fldOf, itsOf] using q')
        | (simp_arith [spKids]
           refine ⟨.counted hm ha hb, fin ?_⟩
           simp_arith [bools_map]
           simpa [kdOf, ofString_inj, fldOf, itsOf] using q')
    | cell h =>
      simp_arith [spKids]
      refine ⟨.cell h, fin ?_⟩
      simp_arith [bools_map]
      simpa [kdOf, ofString_inj] using q'
    | row h =>
      simp_arith [spKids]
      refine ⟨.row h, fin ?_⟩
      simp_arith [bools_map]
      simpa [kdOf, ofString_inj] using q'
    | choice hm h =>
      simp_arith [spKids]
      refine ⟨.choice hm h, fin ?_⟩
      simp_arith [bools_map]
      simpa [kdOf, ofString_inj] using q'
    | times h0 h =>
      simp_arith [spKids]
      refine ⟨.times h0 h, fin ?_⟩
      simp_arith [bools_map]
      simpa [kdOf, ofString_inj] using q'
    | within h => simp_arith; simpa [kdOf, ofString_inj] using q'
    | fill =>
      simp_arith [spKids]
      refine ⟨.fill, fin ?_⟩
      simp_arith [bools_map]
      simpa [kdOf, ofString_inj] using q'
    | ifleft =>
      simp_arith [spKids]
      refine ⟨.ifleft, fin ?_⟩
      simp_arith [bools_map]
      simpa [kdOf, ofString_inj] using q'
    | need h0 h => simp_arith; simpa [kdOf, ofString_inj] using q'
    | pad h0 h ha =>
      simp_arith [spKids]
      refine ⟨.pad h0 h ha, fin ?_⟩
      simp_arith [bools_map]
      simpa [kdOf, ofString_inj] using q'
theorem dat_ints {ns : List Int} : dat (.lst (ns.map A.D.int)) = true := by
  have key : isPds (ns.map A.D.int) = true ∧ pds (ns.map A.D.int) = ns.map PyData.int ∧ PyData.canLayAll0 (ns.map PyData.int) = true ∧ PyData.depthAll (ns.map PyData.int) = 0 := by
    induction ns with
    | nil => exact ⟨rfl, rfl, rfl, rfl⟩
    | cons n ns ih =>
      obtain ⟨h1, h2, h3, h4⟩ := ih
      refine ⟨by simp [isPds, isPd, h1], by simp [pds, pd, h2], by simp [PyData.canLayAll0, PyData.canLay0, h3], by simp [PyData.depthAll, PyData.depth, h4]⟩
  obtain ⟨h1, h2, h3, h4⟩ := key
  simp [dat, isPd, h1, pd, h2, SeqAt.shaped, PyData.canLay0, h3, PyData.depth, h4]
theorem eqL_nil (xs : List A.D) : eqD (.lst xs) (.lst []) = decide (xs = []) := by
  cases xs with
  | nil => rfl
  | cons x xs => rfl
theorem oI_none {s : Option Int} : eqv1 (oI s) .non = decide (s = none) := by cases s <;> rfl
theorem any_oI {ss : List (Option Int)} : ((ss.map oI).any fun y => eqv1 y .non) = decide (none ∈ ss) := by
  induction ss with
  | nil => rfl
  | cons s ss ih =>
    rw [List.map_cons, List.any_cons, ih, oI_none]
    by_cases h : s = none
    · subst h; simp
    · have : ¬ none = s := fun e => h e.symm
      simp [h, this]
theorem all_oI {ss : List (Option Int)} : (ss.map oI).all flt = true := by
  rw [List.all_map, List.all_eq_true]
  intro s _
  cases s <;> rfl
theorem somes {ss : List (Option Int)} (h : ¬ none ∈ ss) : ∃ ns : List Int, ss = ns.map some := by
  induction ss with
  | nil => exact ⟨[], rfl⟩
  | cons s ss ih =>
    simp only [List.mem_cons, not_or] at h
    obtain ⟨ns, rfl⟩ := ih h.2
    cases s with
    | none => exact absurd rfl h.1
    | some n => exact ⟨n :: ns, rfl⟩
theorem map_oI {ns : List Int} : (ns.map some).map oI = ns.map A.D.int := by simp [oI]
theorem sum_some {ns : List Int} : ((ns.map some).map (·.getD 0)).sum = ns.sum := by
  rw [List.map_map]
  congr 1
  exact List.map_id ns
theorem none_map {ns : List Int} : ¬ none ∈ ns.map some := by simp
theorem sizeB_row {m : Int} {ns : List Int} : sizeB "row" m (ns.map some) = some ns.sum := by
  unfold sizeB
  rw [if_neg (by simp [ofString_inj]), if_neg (by simp [ofString_inj]), if_neg (by simp [ofString_inj]), if_neg (by simp [ofString_inj]), sum_some]
theorem sizeB_times {m x : Int} : sizeB "times" m [some x] = some (m * x) := by
  unfold sizeB
  rw [if_neg (by simp [ofString_inj]), if_neg (by simp [ofString_inj]), if_neg (by simp [ofString_inj]), if_pos rfl]
  rfl
theorem sizeB_choice {m x : Int} {ns : List Int} : sizeB "choice" m ((x :: ns).map some) = if ns.filter (fun y => decide (¬ y = x)) = [] then some (1 + x) else none := by
  unfold sizeB
  rw [if_neg (by simp [ofString_inj]), if_neg (by simp [ofString_inj]), if_pos rfl]
  have e : (((x :: ns).map some).all fun s => decide (s = ((x :: ns).map some).headD none)) = decide (ns.filter (fun y => decide (¬ y = x)) = []) := by
    rw [Bool.eq_iff_iff]
    simp [List.filter_eq_nil_iff]
  rw [e]
  by_cases h : ns.filter (fun y => decide (¬ y = x)) = []
  · rw [if_pos h, if_pos (decide_eq_true h)]
    rfl
  · rw [if_neg h, if_neg (by simpa using h)]
theorem filter_ints {x : Int} {ns : List Int} : ((ns.map A.D.int).filter fun d => match d with | .int y => decide (¬ y = x) | _ => false) = (ns.filter fun y => decide (¬ y = x)).map A.D.int := by
  rw [List.filter_map]
  rfl
theorem d_size (D : Dfn K mg "size_of" s_size ["part"] f fd) (T : Bn mg) (cC : Fnc P w K mg base 1 "children" (upSp ⟨K, cA⟩ spKids)) (cS : Fnc P w K mg base (n + 1) "size_of" (upSp ⟨K, cA⟩ (spSize n))) : Fnc P w K mg base (n + 2) "size_of" (upSp ⟨K, cA⟩ (spSize (n + 1))) := by
  refine D.fnc (def_ok (k := n + 1) D.F sc_size (fun cdv A outer s H E hr => (js_cons (js_set (i := 1) sc_size.nd rfl (Or.inr rfl) (j_lc (own := [("inner", 2)]) (tt := aYes) (by rfl) sc_size.nd (gl_name (i := 2) (by decide)) (ji_seq (j_fc cC hr (by omega) rfl (L2N.passAt (L2N.takes_of rfl rfl rfl rfl)) (ja_cons (jv 0) ja_nil))) (blkOk_by (own := [("inner", 2)]) (N := ["part", "sizes", "inner", "size"]) (sc := defScope s_size) (by decide +kernel)) (fun _ _ _ _ _ => (pg_name (i := 2) sc_size.nd rfl (Or.inl rfl))) (fun _ _ _ _ _ => jts_nil) (fun _ _ _ _ _ => (j_fc cS hr (by omega) rfl (passN rfl rfl) (ja_cons (jv 2) ja_nil)))))
    (js_cons (js_if (JW.jt (jw_or (jt_cmp (kop_in_seq K) (os_in (neg := false)) (j_ix (kix_lt K) os_ix (jv 0) j_int (fun _ _ => rfl)) (j_tup (ja_cons j_str (ja_cons j_str (ja_cons j_str (ja_cons j_str (ja_cons j_str ja_nil)))))) rfl) (jw_or1 (jt_cmp (kop_in_seq K) (os_in (neg := false)) j_non (jv 1) rfl))))
      (js_one (js_ret j_non))
      js_nil)
    (js_one (js_match (j_ix (kix_lt K) os_ix (jv 0) j_int (fun _ _ => rfl))
      (jc_cons pp_val (js_one (js_ret j_int))
      (jc_cons pp_val (js_one (js_ret (j_if (jt_cmp (op_eqA K hr.units) os_eq (j_lc (own := [("size", 3)]) (tt := _) (by rfl) sc_size.nd (gl_name (i := 3) (by decide)) (ji_seq (jv 1)) (blkOk_by (own := [("size", 3)]) (N := ["part", "sizes", "inner", "size"]) (sc := defScope s_size) (by decide +kernel)) (fun _ _ _ _ _ => (pg_name (i := 3) sc_size.nd rfl (Or.inl rfl))) (fun _ _ _ _ _ => (jts_one (jt_cmp (op_neA K hr.units) os_ne (jv 3) (j_ix (kix_lt K) os_ix (jv 1) j_int (fun _ _ => rfl)) (nomark _)))) (fun _ _ _ _ _ => (jv 3))) (j_lst ja_nil) (nomark _)) (j_op (op_addA K) os_add j_int (j_ix (kix_lt K) os_ix (jv 1) j_int (fun _ _ => rfl))) j_non)))
      (jc_cons pp_val (js_one (js_ret (j_op (op_mulB K) os_mul (j_ix (kix_lt K) os_ix (jv 0) j_int (fun _ _ => rfl)) (j_ix (kix_lt K) os_ix (jv 1) j_int (fun _ _ => rfl)))))
      (jc_any (js_one (js_ret (j_callB (kcr_sum K rfl rfl) cs_sum (by rfl) T.sum (by decide +kernel) (ja_cons (jv 1) ja_nil))))))))))))) ?_ ?_)
  · intro ds S Q E h
    obtain ⟨a, rfl, _⟩ := opt_one h
    rfl
  · intro ds S Q E h
    obtain ⟨d, rfl, hd, q⟩ := opt_one h
    clear h
    have hs := hd.shp
    simp_arith [spKids, spSize]
    refine ⟨hs, lcX_map (fun _ => true) (fun c => oI (sizeP c)) (Nat.le_trans (kids_len hs) (by decide)) (fun x hx Y F hY _ => ?_) ?_⟩
    · simp_arith
      exact ⟨hd.kid hx, hY rfl⟩
    rw [filter_all]
    have e : (kidsD d).map (fun c => oI (sizeP c)) = ((kidsD d).map sizeP).map oI := by simp
    rw [e]
    rw [sizeP_eq] at q
    generalize hss : (kidsD d).map sizeP = ss at q
    have hss' := hss
    have no5 : ∀ {k : Str}, k ∈ (["counted", "within", "fill", "if left", "pad"] : List Str) → sizeB k (numOf (fldOf d 1)) ss = none := fun hk => if_pos (.inl hk)
    have inN : ∀ {k : Str} {m : Int}, none ∈ ss → sizeB k m ss = none := fun hk => if_pos (.inr hk)
    cases hs with
    | cell h =>
      rw [kids_cell] at hss'
      simp only [List.map_nil] at hss'
      rw [← hss'] at q ⊢
      simp_arith
      simpa [sizeB, kdOf, ofString_inj, oI] using q
    | counted => simp_arith; rw [show sizeB _ _ ss = none from no5 (by simp [kdOf])] at q; exact q
    | within => simp_arith; rw [show sizeB _ _ ss = none from no5 (by simp [kdOf])] at q; exact q
    | fill => simp_arith; rw [show sizeB _ _ ss = none from no5 (by simp [kdOf])] at q; exact q
    | ifleft => simp_arith; rw [show sizeB _ _ ss = none from no5 (by simp [kdOf])] at q; exact q
    | pad => simp_arith; rw [show sizeB _ _ ss = none from no5 (by simp [kdOf])] at q; exact q
    | need h0 h =>
      rw [kids_need] at hss'
      simp only [List.map_nil] at hss'
      rw [← hss'] at q ⊢
      simp_arith [A.intsD]
      simpa [sizeB, kdOf, ofString_inj, oI] using q
    | row h =>
      simp_arith [all_oI, any_oI]
      by_cases hn : none ∈ ss
      · rw [inN hn] at q
        rw [if_pos hn]
        exact q
      · rw [if_neg hn]
        obtain ⟨ns, rfl⟩ := somes hn
        rw [map_oI]
        simp_arith [ints_map]
        have q2 : Q (oI (sizeB "row" 0 (ns.map some))) S := q
        rw [sizeB_row] at q2
        exact q2
    | times h0 h =>
      rw [kids_times] at hss'
      simp only [List.map_cons, List.map_nil] at hss'
      rw [← hss'] at q inN ⊢
      rename_i m p
      cases hz : sizeP p with
      | none =>
        rw [hz] at q inN
        simp_arith [hz, oI]
        rw [inN (by simp)] at q
        exact q
      | some x =>
        rw [hz] at q
        simp_arith [hz, oI]
        have q2 : Q (oI (sizeB "times" m [some x])) S := q
        rw [sizeB_times] at q2
        exact ⟨mulL (by omega), q2⟩
    | choice hm h =>
      obtain ⟨h1, h2, h3⟩ := areOpts_mem h
      rename_i m os
      rw [kids_choice] at hss'
      have hne : ss ≠ [] := by
        intro z
        rw [z] at hss'
        simp at hss'
        rw [hss'] at h2
        simp at h2
      simp_arith [all_oI, any_oI]
      by_cases hn : none ∈ ss
      · rw [inN hn] at q
        rw [if_pos hn]
        exact q
      · rw [if_neg hn]
        obtain ⟨ns, rfl⟩ := somes hn
        match ns, hne, q with
        | x :: ns, _, q =>
          rw [map_oI]
          have q2 : Q (oI (sizeB "choice" 0 ((x :: ns).map some))) S := by
            rw [sizeB_choice]
            have q3 : Q (oI (sizeB "choice" (numOf (fldOf (.tup [.str "choice", m, .tup os]) 1)) ((x :: ns).map some))) S := q
            rw [sizeB_choice] at q3
            exact q3
          rw [sizeB_choice] at q2
          simp_arith
          refine lcX_map (fun d => match d with | .int y => decide (¬ y = x) | _ => false) id ?_ (fun z hz Y F hY hF => ?_) ?_
          · have : ((x :: ns).map some).length ≤ 6 := by rw [← hss']; simp; omega
            simp at this ⊢
            omega
          · obtain ⟨y, hy, rfl⟩ := List.mem_map.mp (show z ∈ (x :: ns).map A.D.int from hz)
            simp_arith
            by_cases hyx : y = x
            · have := hF (by simp [hyx])
              simpa [hyx] using this
            · have := hY (by simp [hyx])
              simpa [hyx] using this
          · have e2 : List.map id (List.filter (fun d => match d with | A.D.int y => decide (¬ y = x) | _ => false) (A.D.int x :: ns.map A.D.int)) = (ns.filter fun y => decide (¬ y = x)).map A.D.int := by
              rw [List.map_id, List.filter_cons_of_neg (by simp), filter_ints]
            rw [e2]
            simp_arith [dat_ints, eqL_nil, show dat (.lst []) = true from by decide +kernel]
            by_cases hf : ns.filter (fun y => decide (¬ y = x)) = []
            · rw [if_pos hf] at q2
              rw [if_pos (by rw [hf]; rfl)]
              exact q2
            · rw [if_neg hf] at q2
              rw [if_neg (by simpa using hf)]
              exact q2
end


/-! ### the first wrong part -/
def fwK (F : A.D → List Int → Option (List Int)) (p : List Int) : List A.D → Nat → Option (List Int)
  | [], _ => none
  | c :: r, i => match F c (p ++ [(i : Int)]) with
    | some q => some q
    | none => fwK F p r (i + 1)
def badP (d : A.D) : Bool := (decide (kdOf d = "counted") && ((match fldOf d 3 with | .non => false | _ => true) && decide (sizeP (fldOf d 4) = none))) ||
  (decide (kdOf d = "within") && ((match fldOf d 3 with | .str x => decide (x = "told") | _ => false) && asksP (fldOf d 5)))
def fwB : Nat → A.D → List Int → Option (List Int)
  | 0, _, p => some p
  | n + 1, d, p => if hasForm d = true then (match fwK (fwB n) p (kidsD d) 0 with | some q => some q | none => if badP d = true then some p else none) else some p
def pathD (p : List Int) : A.D := .tup (p.map A.D.int)
def oP : Option (List Int) → A.D
  | none => .non
  | some p => pathD p
theorem fwK_none {F : A.D → List Int → Option (List Int)} {p : List Int} : ∀ {cs : List A.D} {i : Nat}, fwK F p cs i = none → ∀ c ∈ cs, ∃ j : Int, F c (p ++ [j]) = none
  | [], _, _, c, hc => by simp at hc
  | x :: r, i, h, c, hc => by
    simp only [fwK] at h
    split at h
    · cases h
    · rename_i e
      rcases List.mem_cons.mp hc with rfl | hc
      · exact ⟨_, e⟩
      · exact fwK_none h c hc
theorem pw_of : ∀ {n : Nat} {d : A.D} {p : List Int}, fwB n d p = none → Pw n d
  | 0, d, p, h => by simp [fwB] at h
  | n + 1, d, p, h => by
    simp only [fwB] at h
    split at h
    · rename_i hf
      split at h
      · cases h
      · rename_i e
        refine .mk (shp_of hf) fun c hc => ?_
        obtain ⟨j, hj⟩ := fwK_none e c hc
        exact pw_of hj
    · cases h
/-- data go down -/
theorem shaped_tup {xs : List A.D} (h : dat (.tup xs) = true) : ∀ x ∈ xs, dat x = true := by
  obtain ⟨h1, h2⟩ := dat_iff h
  have m := isPds_mem (xs := xs) h1
  have h2' : PyData.canLayAll0 (pds xs) = true ∧ 1 + PyData.depthAll (pds xs) ≤ 64 := by
    simp only [pd, SeqAt.shaped, PyData.canLay0, PyData.depth, Bool.and_eq_true, decide_eq_true_eq] at h2
    exact ⟨h2.1, by omega⟩
  have key : ∀ {ys : List A.D}, PyData.canLayAll0 (pds ys) = true → ∀ y ∈ ys, PyData.canLay0 (pd y) = true ∧ PyData.depth (pd y) ≤ PyData.depthAll (pds ys) := by
    intro ys
    induction ys with
    | nil => intro _ y hy; simp at hy
    | cons z zs ih =>
      intro hc y hy
      simp only [pds, PyData.canLayAll0, Bool.and_eq_true] at hc
      simp only [pds, PyData.depthAll]
      rcases List.mem_cons.mp hy with rfl | hy
      · exact ⟨hc.1, Nat.le_max_left _ _⟩
      · have := ih hc.2 y hy
        exact ⟨this.1, Nat.le_trans this.2 (Nat.le_max_right _ _)⟩
  intro x hx
  obtain ⟨k1, k2⟩ := key h2'.1 x hx
  simp only [dat, m x hx, SeqAt.shaped, k1, Bool.true_and, decide_eq_true_eq]
  omega
theorem dat_kid {d c : A.D} (hs : Shp d) (h : dat d = true) (hc : c ∈ kidsD d) : dat c = true := by
  cases hs with
  | cell => rw [kids_cell] at hc; simp at hc
  | row => rw [kids_row] at hc; exact shaped_tup (shaped_tup h _ (by simp)) c hc
  | choice hm ho =>
    rw [kids_choice] at hc
    obtain ⟨o, ho', rfl⟩ := List.mem_map.mp hc
    have h1 := shaped_tup (shaped_tup h (.tup _) (by simp)) o ho'
    obtain ⟨i, p, rfl⟩ := (areOpts_mem ho).1 o ho'
    exact shaped_tup h1 p (by simp)
  | times => rw [kids_times] at hc; simp at hc; subst hc; exact shaped_tup h _ (by simp)
  | counted => rw [kids_counted] at hc; simp at hc; subst hc; exact shaped_tup h _ (by simp)
  | within => rw [kids_within] at hc; simp at hc; subst hc; exact shaped_tup h _ (by simp)
  | fill => rw [kids_fill] at hc; simp at hc; subst hc; exact shaped_tup h _ (by simp)
  | ifleft => rw [kids_ifleft] at hc; simp at hc; subst hc; exact shaped_tup h _ (by simp)
  | need => rw [kids_need] at hc; simp at hc
  | pad => rw [kids_pad] at hc; simp at hc
theorem Pw.mono : ∀ {n m : Nat} {d : A.D}, Pw n d → n ≤ m → Pw m d
  | _, 0, _, .mk _ _, h => by omega
  | _, m + 1, _, .mk hs hk, h => .mk hs fun c hc => (hk c hc).mono (by omega)
abbrev s_wrong : Stmt := (topS 39)
theorem sc_wrong : FnScope ["part", "path", "index", "inner", "found"] ["part", "path"] (defScope s_wrong) := ⟨rfl, rfl, rfl, by decide +kernel, rfl, by decide +kernel, by decide +kernel⟩
abbrev s_wpath : Stmt := (topS 42)
theorem sc_wpath : FnScope ["thing", "found"] ["thing"] (defScope s_wpath) := ⟨rfl, rfl, rfl, by decide +kernel, rfl, by decide +kernel, by decide +kernel⟩
abbrev s_cpart : Stmt := (topS 43)
theorem sc_cpart : FnScope ["thing", "found"] ["thing"] (defScope s_cpart) := ⟨rfl, rfl, rfl, by decide +kernel, rfl, by decide +kernel, by decide +kernel⟩
def spW : Nat → ASp
  | 0 => fun _ _ _ _ => False
  | n + 1 => fun ds S Q _ => opt (two2 ds) fun p => dat p.1 = true ∧ ∃ path : List Int, p.2 = pathD path ∧ path.length + n = 8 ∧ Q (oP (fwB n p.1 path)) S
theorem enum_drop {xs : List A.D} {i : Nat} (h : i < xs.length) : (enumD xs).drop i = .tup [.int (i : Int), xs[i]] :: (enumD xs).drop (i + 1) := by
  have hl : i < (enumD xs).length := by simpa [enumD] using h
  rw [List.drop_eq_getElem_cons hl]
  congr 1
  simp [enumD, h]
section
variable {P : Program} {w : World} {K : PySem.W.Frag} {cA : Str → Addr} {mg : Str → Option Value} {base : Heap} {f aH aL aR aM : Addr} {fd : FuncData} {n : Nat}
theorem d_wrong (D : Dfn K mg "first_wrong" s_wrong ["part", "path"] f fd) (T : Bn mg) (M : Cst K w mg aH aL aR aM) (cC : Fnc P w K mg base 1 "children" (upSp ⟨K, cA⟩ spKids)) (cH : Fnc P w K mg base 5 "has_form" (upSp ⟨K, cA⟩ spForm))
    (cS : ∀ m, Fnc P w K mg base (m + 1) "size_of" (upSp ⟨K, cA⟩ (spSize m))) (cA1 : ∀ m, Fnc P w K mg base (m + 1) "asks" (upSp ⟨K, cA⟩ (spAsks m))) (cF : Fnc P w K mg base (n + 6) "first_wrong" (upSp ⟨K, cA⟩ (spW n))) : Fnc P w K mg base (n + 7) "first_wrong" (upSp ⟨K, cA⟩ (spW (n + 1))) := by
  obtain ⟨td, gMostDepth⟩ := M.depth
  have cS := cS n
  have cA1 := cA1 n
  refine D.fnc (def_ok (k := n + 6) D.F sc_wrong (fun cdv A outer s H E hr => (js_cons (js_if (JW.jt (jw_or (jt_cmp op_ge os_ge (j_callB (kcall_len_seq K) cs_len (by rfl) T.len (by decide +kernel) (ja_cons (jv 1) ja_nil)) (j_gint (by rfl) gMostDepth) (nomark _)) (jw_or1 (jt_not (jt_val (j_fc cH hr (by omega) rfl (L2N.passAt (L2N.takes_of rfl rfl rfl rfl)) (ja_cons (jv 0) ja_nil)))))))
      (js_one (js_ret (jv 1)))
      js_nil)
    (js_cons (js_for (vs := [0, 1, 2, 3, 4]) (gl_tup (m := 2) (gls_cons (gl_name (i := 2) (by decide)) (gls_cons (gl_name (i := 3) (by decide)) gls_nil))) (passes_of rfl) rfl (ji_enum (by rfl) T.enumerate (ja_cons (j_fc cC hr (by omega) rfl (L2N.passAt (L2N.takes_of rfl rfl rfl rfl)) (ja_cons (jv 0) ja_nil)) ja_nil)) (kpg_tup K (n := 2) rfl (pgs_cons (pg_name (i := 2) sc_wrong.nd rfl (Or.inl rfl)) (pgs_cons (pg_name (i := 3) sc_wrong.nd rfl (Or.inl rfl)) pgs_nil)))
      (js_cons (js_set (i := 4) sc_wrong.nd rfl (Or.inl rfl) (j_fc cF hr (by omega) rfl (L2N.passAt (L2N.takes_of rfl rfl rfl rfl)) (ja_cons (jv 3) (ja_cons (j_tup (ja_star (jv 1) (ja_cons (jv 2) ja_nil))) ja_nil))))
      (js_one (js_if (jt_cmp op_notN os_isnt (jv 4) j_non (nomark _))
        (js_one (js_ret (jv 4)))
        js_nil))))
    (js_cons (js_if (JW.jt (jw_and (jt_cmp (op_eqA K hr.units) os_eq (j_ix (kix_lt K) os_ix (jv 0) j_int (fun _ _ => rfl)) j_str (nomark _)) (jw_and (jt_cmp op_notN os_isnt (j_ix (kix_lt K) os_ix (jv 0) j_int (fun _ _ => rfl)) j_non (nomark _)) (jw_and1 (jt_cmp op_isN os_is (j_fc cS hr (by omega) rfl (L2N.passAt (L2N.takes_of rfl rfl rfl rfl)) (ja_cons (j_ix (kix_lt K) os_ix (jv 0) j_int (fun _ _ => rfl)) ja_nil)) j_non (nomark _))))))
      (js_one (js_ret (jv 1)))
      js_nil)
    (js_cons (js_if (JW.jt (jw_and (jt_cmp (op_eqA K hr.units) os_eq (j_ix (kix_lt K) os_ix (jv 0) j_int (fun _ _ => rfl)) j_str (nomark _)) (jw_and (jt_cmp (op_eqA K hr.units) os_eq (j_ix (kix_lt K) os_ix (jv 0) j_int (fun _ _ => rfl)) j_str (nomark _)) (jw_and1 (jt_val (j_fc cA1 hr (by omega) rfl (L2N.passAt (L2N.takes_of rfl rfl rfl rfl)) (ja_cons (j_ix (kix_lt K) os_ix (jv 0) j_int (fun _ _ => rfl)) ja_nil)))))))
      (js_one (js_ret (jv 1)))
      js_nil)
    (js_one (js_ret j_non))))))) ?_ ?_)
  · intro ds S Q E h
    obtain ⟨a, b, rfl, _⟩ := opt_two h
    rfl
  · intro ds S Q E h
    obtain ⟨d, b, rfl, hd, path, rfl, hl, q⟩ := opt_two h
    clear h
    have hd : dat d = true := hd
    have q : Q (oP (fwB n d path)) S := q
    simp_arith [pathD, spForm, spKids]
    have el : (path.map A.D.int).length = path.length := by simp
    rw [el]
    cases n with
    | zero =>
      rw [if_pos (by omega)]
      exact q
    | succ m =>
      rw [if_neg (by omega)]
      refine ⟨hd, ?_⟩
      simp only [fwB] at q
      cases hf : hasForm d with
      | false => rw [hf] at q; simp_arith; exact q
      | true =>
        rw [hf] at q
        simp_arith
        have hs := shp_of hf
        refine ⟨hs, ?_⟩
        simp only [if_true] at q
        refine forX_by (fun r ρ S' => ∃ (i : Nat) (o2 o3 o4 : Option A.D), S' = S ∧ ρ = [some d, some (.tup (path.map A.D.int)), o2, o3, o4] ∧ i ≤ (kidsD d).length ∧ r = (enumD (kidsD d)).drop i ∧ fwK (fwB m) path (kidsD d) 0 = fwK (fwB m) path ((kidsD d).drop i) i) ?_ ?_ ⟨0, none, none, none, rfl, rfl, Nat.zero_le _, rfl, rfl⟩
        · rintro ρ S' ⟨i, o2, o3, o4, rfl, rfl, hi, hr', hk⟩
          have hi' : (kidsD d).length ≤ i := by
            have := congrArg List.length hr'
            simp [enumD] at this
            omega
          rw [List.drop_of_length_le hi'] at hk
          have hk : fwK (fwB m) path (kidsD d) 0 = none := hk
          rw [hk] at q
          have pk : ∀ c ∈ kidsD d, Pw (m + 1) c := fun c hc => by
            obtain ⟨j, hj⟩ := fwK_none hk c hc
            exact (pw_of hj).mono (by omega)
          simp only at q
          cases hs with
          | @counted a0 a1 a2 p hm ha hb =>
            have hp := pk p (by rw [kids_counted]; simp)
            cases a2 <;> first
              | (simp [isMost, isBetw] at hb; done)
              | (simp_arith [spSize]; simpa [badP, kdOf, ofString_inj, fldOf, itsOf, oP] using q)
              | (simp_arith [spSize]
                 refine ⟨hp, ?_⟩
                 cases hz : sizeP p with
                 | none => simp_arith [oI]; simpa [badP, kdOf, ofString_inj, fldOf, itsOf, oP, hz, pathD] using q
                 | some z => simp_arith [oI]; simpa [badP, kdOf, ofString_inj, fldOf, itsOf, oP, hz, pathD] using q)
          | @within a0 a1 a2 a3 p h =>
            have hp := pk p (by rw [kids_within]; simp)
            have h2 : isOneOf limits a2 = true := by
              simp only [isLimitB, Bool.and_eq_true] at h
              exact h.2.2.1
            obtain ⟨x, rfl⟩ : ∃ x, a2 = .str x := by
              cases a2 <;> simp [isOneOf] at h2
              exact ⟨_, rfl⟩
            simp_arith [spAsks]
            by_cases hx : x = "told"
            · subst hx
              rw [if_pos rfl]
              refine ⟨hp, ?_⟩
              cases hz : asksP p with
              | false => simp_arith; simpa [badP, kdOf, ofString_inj, fldOf, itsOf, oP, hz, pathD] using q
              | true => simp_arith; simpa [badP, kdOf, ofString_inj, fldOf, itsOf, oP, hz, pathD] using q
            · rw [if_neg hx]
              simpa [badP, kdOf, ofString_inj, fldOf, itsOf, oP, hx, pathD] using q
          | _ => simp_arith; simpa [badP, kdOf, ofString_inj, oP] using q
        · rintro x r ρ S' ⟨i, o2, o3, o4, rfl, rfl, hi, hr', hk⟩ F hF
          have hi' : i < (kidsD d).length := by
            have := congrArg List.length hr'
            simp [enumD] at this
            omega
          rw [enum_drop hi'] at hr'
          cases hr'
          rw [List.drop_eq_getElem_cons hi'] at hk
          simp only [fwK] at hk
          simp_arith [spW]
          refine ⟨Nat.le_trans (show _ ≤ 1000000 by simp; omega) (by decide), dat_kid hs hd (List.getElem_mem _), path ++ [(i : Int)], by simp [pathD], by simp; omega, ?_⟩
          cases hz : fwB m (kidsD d)[i] (path ++ [(i : Int)]) with
          | some y =>
            rw [hz] at hk
            rw [hk] at q
            simp_arith [oP, pathD]
            exact q
          | none =>
            rw [hz] at hk
            simp_arith [oP]
            exact hF _ _ ⟨i + 1, _, _, _, rfl, rfl, hi', rfl, hk⟩
def wpP (d : A.D) : Option (List Int) := match fwB 8 d [] with
  | none => if 60 < countP d ∨ 1000 < unrollP d then some [] else none
  | some p => some p
def spWp : ASp := fun ds S Q _ => opt (one1 ds) fun d => dat d = true ∧ Q (oP (wpP d)) S
def spCp : ASp := fun ds S Q E => opt (one1 ds) fun d => dat d = true ∧ (wpP d = none → Q .non S) ∧ ∀ p, wpP d = some p → E ⟨"NoPart", ["path"], [pathD p]⟩ S
theorem d_wpath (D : Dfn K mg "wrong_path" s_wpath ["thing"] f fd) (T : Bn mg) (M : Cst K w mg aH aL aR aM) (cF : Fnc P w K mg base 15 "first_wrong" (upSp ⟨K, cA⟩ (spW 9))) (cC : Fnc P w K mg base 9 "count_of" (upSp ⟨K, cA⟩ (spCount 8))) (cU : Fnc P w K mg base 9 "unrolled" (upSp ⟨K, cA⟩ (spUnroll 8))) :
    Fnc P w K mg base 16 "wrong_path" (upSp ⟨K, cA⟩ spWp) := by
  obtain ⟨t1, gMostParts⟩ := M.parts
  obtain ⟨t2, gMostUnrolled⟩ := M.unroll
  refine D.fnc (def_ok (k := 15) D.F sc_wpath (fun cdv A outer s H E hr => (js_cons (js_set (i := 1) sc_wpath.nd rfl (Or.inl rfl) (j_fc cF hr (by omega) rfl (L2N.passAt (L2N.takes_of rfl rfl rfl rfl)) (ja_cons (jv 0) (ja_cons (j_tup ja_nil) ja_nil))))
    (js_cons (js_if (JW.jt (jw_and (jt_cmp op_isN os_is (jv 1) j_non (nomark _)) (jw_and1 (JW.jt (jw_or (jt_cmp op_gt os_gt (j_fc cC hr (by omega) rfl (L2N.passAt (L2N.takes_of rfl rfl rfl rfl)) (ja_cons (jv 0) ja_nil)) (j_gint (by rfl) gMostParts) (nomark _)) (jw_or1 (jt_cmp op_gt os_gt (j_fc cU hr (by omega) rfl (L2N.passAt (L2N.takes_of rfl rfl rfl rfl)) (ja_cons (jv 0) ja_nil)) (j_gint (by rfl) gMostUnrolled) (nomark _))))))))
      (js_one (js_ret (j_tup ja_nil)))
      js_nil)
    (js_one (js_ret (jv 1)))))) ?_ ?_)
  · intro ds S Q E h
    obtain ⟨a, rfl, _⟩ := opt_one h
    rfl
  · intro ds S Q E h
    obtain ⟨d, rfl, hd, q⟩ := opt_one h
    clear h
    simp_arith [spW]
    refine ⟨hd, [], rfl, rfl, ?_⟩
    unfold wpP at q
    cases hz : fwB 8 d [] with
    | some p => rw [hz] at q; simp_arith [oP, pathD]; exact q
    | none =>
      rw [hz] at q
      have hp := pw_of hz
      simp only at q
      simp_arith [oP, spCount, spUnroll]
      refine ⟨hp, ?_⟩
      by_cases h1 : 60 < countP d
      · rw [if_pos (.inl h1)] at q
        rw [if_pos h1]
        exact q
      · rw [if_neg h1]
        refine ⟨hp, ?_⟩
        by_cases h2 : 1000 < unrollP d
        · rw [if_pos (.inr h2)] at q
          rw [if_pos h2]
          exact q
        · rw [if_neg (by simp [h1, h2])] at q
          rw [if_neg h2]
          exact q
theorem d_cpart {xN : XCls P K mg "NoPart" (cA "NoPart") "path"} (D : Dfn K mg "check_part" s_cpart ["thing"] f fd) (T : Bn mg) (cW : Fnc P w K mg base 16 "wrong_path" (upSp ⟨K, cA⟩ spWp)) : Fnc P w K mg base 17 "check_part" (upSp ⟨K, cA⟩ spCp) := by
  have xNoPart := xN
  refine D.fnc (def_ok (k := 16) D.F sc_cpart (fun cdv A outer s H E hr => (js_cons (js_set (i := 1) sc_cpart.nd rfl (Or.inl rfl) (j_fc cW hr (by omega) rfl (L2N.passAt (L2N.takes_of rfl rfl rfl rfl)) (ja_cons (jv 0) ja_nil)))
    (js_one (js_if (jt_cmp op_notN os_isnt (jv 1) j_non (nomark _))
      (js_one (js_raise (C := "NoPart") rfl xNoPart hr (L2N.takes_of rfl rfl rfl rfl) (ja_cons (jv 1) ja_nil)))
      js_nil)))) ?_ ?_)
  · intro ds S Q E h
    obtain ⟨a, rfl, _⟩ := opt_one h
    rfl
  · intro ds S Q E h
    obtain ⟨d, rfl, hd, q, e⟩ := opt_one h
    clear h
    simp_arith [spWp]
    refine ⟨hd, ?_⟩
    cases hz : wpP d with
    | none => simp_arith [oP]; exact q hz
    | some p => simp_arith [oP, pathD]; exact e p hz
end


theorem insOf_of {S : Sto} {b : Nat} {C : Str} {fs : List (Str × A.D)} (h : S[b]? = some (.ins C fs)) : insOf S (.ref b) C = some fs := by simp [insOf, h]
theorem get_lt {S : Sto} {b : Nat} {o : O} (h : S[b]? = some o) : b < S.length := (List.getElem?_eq_some_iff.mp h).1
def Gr (ms : List Nat) (S S' : Sto) : Prop := S.length ≤ S'.length ∧ ∀ k, k ∉ ms → k < S.length → S'[k]? = S[k]?
theorem Gr.refl (ms : List Nat) (S : Sto) : Gr ms S S := ⟨Nat.le_refl _, fun _ _ _ => rfl⟩
theorem Gr.trans {ms : List Nat} {S S1 S2 : Sto} (x : Gr ms S S1) (y : Gr ms S1 S2) : Gr ms S S2 := ⟨Nat.le_trans x.1 y.1, fun k hk hl => (y.2 k hk (Nat.lt_of_lt_of_le hl x.1)).trans (x.2 k hk hl)⟩
theorem Gr.set {ms : List Nat} {S : Sto} {k : Nat} {o : O} (h : k ∈ ms) : Gr ms S (S.set k o) := ⟨by simp, fun j hj _ => by rw [List.getElem?_set_ne (fun (e : k = j) => hj (e ▸ h))]⟩
theorem Gr.app {ms : List Nat} {S T : Sto} : Gr ms S (S ++ T) := ⟨by simp, fun k _ hl => List.getElem?_append_left hl⟩
theorem Gr.up {ms ns : List Nat} {S S1 : Sto} (x : Gr ms S S1) (h : ∀ k ∈ ms, k < S.length → k ∈ ns) : Gr ns S S1 := ⟨x.1, fun k hk hl => x.2 k (fun z => hk (h k z hl)) hl⟩
theorem Chg.gr {ms : List Nat} {S S1 : Sto} (x : Chg ms S S1) : Gr ms S S1 := ⟨Nat.le_of_eq x.1.symm, fun k hk _ => x.2 k hk⟩
theorem Gr.get {ms : List Nat} {S S1 : Sto} (x : Gr ms S S1) {k : Nat} {o : O} (hk : k ∉ ms) (h : S[k]? = some o) : S1[k]? = some o := (x.2 k hk (get_lt h)).trans h
/-- a right part, at most n deep -/
inductive Pr : Nat → A.D → Prop
  | mk {n : Nat} {d : A.D} (h : Shp d) (hb : badP d = false) (hk : ∀ c ∈ kidsD d, Pr n c) : Pr (n + 1) d
theorem Pr.pw : ∀ {n : Nat} {d : A.D}, Pr n d → Pw n d
  | _, _, .mk h _ hk => .mk h fun c hc => (hk c hc).pw
theorem Pr.shp {n : Nat} {d : A.D} (h : Pr n d) : Shp d := h.pw.shp
theorem Pr.kid {n : Nat} {d c : A.D} (h : Pr (n + 1) d) (hc : c ∈ kidsD d) : Pr n c := by
  cases h with
  | mk _ _ hk => exact hk c hc
theorem Pr.bad {n : Nat} {d : A.D} (h : Pr n d) : badP d = false := by cases h; assumption
theorem pr_of : ∀ {n : Nat} {d : A.D} {p : List Int}, fwB n d p = none → Pr n d
  | 0, d, p, h => by simp [fwB] at h
  | n + 1, d, p, h => by
    simp only [fwB] at h
    split at h
    · rename_i hf
      split at h
      · cases h
      · rename_i e
        split at h
        · cases h
        · rename_i hb
          refine .mk (shp_of hf) (by simpa using hb) fun c hc => ?_
          obtain ⟨j, hj⟩ := fwK_none e c hc
          exact pr_of hj
    · cases h
def isS (x : Str) : A.D → Bool
  | .str y => decide (y = x)
  | _ => false
theorem seq_by {a b : AS} {De : EndsA} {ρ : Ev} {S : Sto} (h : ∀ N : Ev → Sto → Prop, (∀ ρ S, b De ρ S → N ρ S) → a { De with nx := N } ρ S) : sSeq a b De ρ S := h _ fun _ _ z => z
theorem get_set {S : Sto} {b : Nat} {o : O} (h : b < S.length) : (S.set b o)[b]? = some o := List.getElem?_set_self h

/-! ### readers, made -/
structure MDf (K : PySem.W.Frag) (x qual : Str) (st : Stmt) (ps : List Str) (f : Addr) (fd : FuncData) : Prop where
  F : FunG K x qual st f fd
  b : Binds K fd ps []
/-- a method that is called with keywords -/
structure MDK (K : PySem.W.Frag) (x qual : Str) (st : Stmt) (f : Addr) (fd : FuncData) : Prop where
  F : FunG K x qual st f fd
/-- the class Reader as it stands -/
structure Rdr (K : PySem.W.Frag) (cA : Str → Addr) (mg : Str → Option Value) (fI pP gP : Addr) : Prop where
  own_part : FldOk ⟨K, cA⟩ "Reader" "own_part"
  own_level : FldOk ⟨K, cA⟩ "Reader" "own_level"
  mkr : Mk K (cA "Reader") fI
  gl : mg "Reader" = some (.ref (cA "Reader"))
  part : PropOf K (cA "Reader") "part" pP gP
abbrev s_rinit : Stmt := (inClass (topS 52) 0)
theorem sc_rinit : FnScope ["self", "part"] ["self", "part"] (defScope s_rinit) := ⟨rfl, rfl, rfl, by decide +kernel, rfl, by decide +kernel, by decide +kernel⟩
abbrev s_rpart : Stmt := (inClass (topS 52) 1)
theorem sc_rpart : FnScope ["self"] ["self"] (defScope s_rpart) := ⟨rfl, rfl, rfl, by decide +kernel, rfl, by decide +kernel, by decide +kernel⟩
def rdrO (d : A.D) : O := .ins "Reader" [("own_part", d), ("own_level", .non)]
def spRinit : ASp := fun ds S Q E => opt (two2 ds) fun p => ∃ m : Nat, p.1 = .ref m ∧ insAt S m "Reader" = some [] ∧ dat p.2 = true ∧ (wpP p.2 = none → Q .non (S.set m (rdrO p.2))) ∧ ∀ y, wpP p.2 = some y → E ⟨"NoPart", ["path"], [pathD y]⟩ S
def spRpart : ASp := fun ds S Q E => opt (one1 ds) fun d => opt (insOf S d "Reader") fun fs => opt (fs.lookup ("own_part" : Str)) fun v => Q v S
section
variable {P : Program} {w : World} {K : PySem.W.Frag} {cA : Str → Addr} {mg : Str → Option Value} {base : Heap} {f fI pP gP : Addr} {fd : FuncData} {n : Nat}
theorem d_rinit (D : MDf K "__init__" "Reader.__init__" s_rinit ["self", "part"] fI fd) (T : Bn mg) (R : Rdr K cA mg fI pP gP) (cC : Fnc P w K mg base 17 "check_part" (upSp ⟨K, cA⟩ spCp)) : Mkr P w K mg base 18 "Reader" (cA "Reader") (upSp ⟨K, cA⟩ spRinit) := by
  refine mkr_of (def_ok (k := 17) D.F sc_rinit (fun cdv A outer s H E hr => (js_cons (js_expr (j_fc cC hr (by omega) rfl (L2N.passAt (L2N.takes_of rfl rfl rfl rfl)) (ja_cons (jv 1) ja_nil)))
    (js_cons (js_fld (C := "Reader") R.own_part (jv 0) (jv 1) rfl)
    (js_one (js_fld (C := "Reader") R.own_level (jv 0) j_non rfl))))) ?_ ?_) D.b R.mkr R.gl
  · intro ds S Q E h
    obtain ⟨a, b, rfl, _⟩ := opt_two h
    rfl
  · intro ds S Q E h
    obtain ⟨a, d, rfl, m, rfl, hi, hd, q, e⟩ := opt_two h
    clear h
    have hm : S[m]? = some (.ins "Reader" []) := by
      unfold insAt at hi
      split at hi
      · split at hi
        · rename_i C fs e1 e2; subst e2; cases hi; exact e1
        · cases hi
      · cases hi
    have hl := (List.getElem?_eq_some_iff.mp hm).1
    have i2 : ∀ fs, insAt (S.set m (.ins "Reader" fs)) m "Reader" = some fs := fun fs => by
      unfold insAt
      rw [List.getElem?_set_self hl]
      simp
    simp_arith [spCp, hi, i2, List.set_set, ofString_inj]
    exact ⟨hd, q, e⟩
theorem d_rpart (D : MDf K "part" "Reader.part" s_rpart ["self"] gP fd) (T : Bn mg) (R : Rdr K cA mg fI pP gP) : Prp P w K mg base 1 (cA "Reader") "part" (upSp ⟨K, cA⟩ spRpart) := by
  refine prp_of (def_ok (k := 0) D.F sc_rpart (fun cdv A outer s H E hr => (js_one (js_ret (j_fld (C := "Reader") R.own_part (jv 0) rfl)))) ?_ ?_) D.b R.own_part.1 R.part
  · intro ds S Q E h
    obtain ⟨a, rfl, _⟩ := opt_one h
    rfl
  · intro ds S Q E h
    obtain ⟨d, rfl, h⟩ := opt_one h
    simp_arith
    exact h
theorem eqv_dat {d : A.D} (h : dat d = true) : eqD d d = true := by
  unfold eqD
  obtain ⟨h1, h2⟩ := dat_iff h
  simp only [SeqAt.shaped, Bool.and_eq_true] at h2
  exact SeqAt.eqv_refl _ h2.1
end


abbrev s_lchildren : Stmt := (topS 68)
theorem sc_lchildren : FnScope ["part", "option"] ["part"] (defScope s_lchildren) := ⟨rfl, rfl, rfl, by decide +kernel, rfl, by decide +kernel, by decide +kernel⟩
abbrev s_lsize : Stmt := (topS 69)
theorem sc_lsize : FnScope ["part", "sizes", "inner", "size"] ["part"] (defScope s_lsize) := ⟨rfl, rfl, rfl, by decide +kernel, rfl, by decide +kernel, by decide +kernel⟩
section
variable {P : Program} {w : World} {K : PySem.W.Frag} {cA : Str → Addr} {mg : Str → Option Value} {base : Heap} {f aH aL aR aM : Addr} {fd : FuncData} {n : Nat}
theorem d_lchildren (D : Dfn K mg "_law_children" s_lchildren ["part"] f fd) (T : Bn mg) : Fnc P w K mg base 1 "_law_children" (upSp ⟨K, cA⟩ spKids) := by
  refine D.fnc (def_ok (k := 0) D.F sc_lchildren (fun cdv A outer s H E hr => (js_cons (js_if (jt_cmp (op_eqA K hr.units) os_eq (j_ix (kix_lt K) os_ix (jv 0) j_int (fun _ _ => rfl)) j_str (nomark _))
      (js_one (js_ret (j_callTy (kcall_list_of K) cs_list (by rfl) T.list (by decide +kernel) (ja_cons (j_ix (kix_lt K) os_ix (jv 0) j_int (fun _ _ => rfl)) ja_nil))))
      js_nil)
    (js_cons (js_if (jt_cmp (op_eqA K hr.units) os_eq (j_ix (kix_lt K) os_ix (jv 0) j_int (fun _ _ => rfl)) j_str (nomark _))
      (js_one (js_ret (j_lc (own := [("option", 1)]) (tt := aYes) (by rfl) sc_lchildren.nd (gl_name (i := 1) (by decide)) (ji_seq (j_ix (kix_lt K) os_ix (jv 0) j_int (fun _ _ => rfl))) (blkOk_by (own := [("option", 1)]) (N := ["part", "option"]) (sc := defScope s_lchildren) (by decide +kernel)) (fun _ _ _ _ _ => (pg_name (i := 1) sc_lchildren.nd rfl (Or.inl rfl))) (fun _ _ _ _ _ => jts_nil) (fun _ _ _ _ _ => (j_ix (kix_lt K) os_ix (jv 1) j_int (fun _ _ => rfl))))))
      js_nil)
    (js_cons (js_if (jt_cmp (kop_in_seq K) (os_in (neg := false)) (j_ix (kix_lt K) os_ix (jv 0) j_int (fun _ _ => rfl)) (j_lst (ja_cons j_str (ja_cons j_str (ja_cons j_str ja_nil)))) rfl)
      (js_one (js_ret (j_lst ja_nil)))
      js_nil)
    (js_one (js_ret (j_lst (ja_cons (j_ix (kix_lt K) os_ix (jv 0) (j_neg j_int) (fun _ _ => rfl)) ja_nil)))))))) ?_ ?_)
  · intro ds S Q E h
    obtain ⟨a, rfl, _⟩ := opt_one h
    rfl
  · intro ds S Q E h
    obtain ⟨d, rfl, hd, q⟩ := opt_one h
    cases hd with
    | cell h => rw [kids_cell] at q; simp_arith; exact q
    | row h => rw [kids_row] at q; simp_arith; exact q
    | choice hm ho =>
      rw [kids_choice] at q
      obtain ⟨h1, h2, h3⟩ := areOpts_mem ho
      simp_arith
      refine lcX_map (fun _ => true) optPart (by omega) (fun x hx Y F hY _ => ?_) (by rw [filter_all]; exact q)
      obtain ⟨i, p, rfl⟩ := h1 x hx
      simp_arith
      exact hY rfl
    | times h0 h => rw [kids_times] at q; simp_arith; exact q
    | counted => rw [kids_counted] at q; simp_arith; exact q
    | within => rw [kids_within] at q; simp_arith; exact q
    | fill => rw [kids_fill] at q; simp_arith; exact q
    | ifleft => rw [kids_ifleft] at q; simp_arith; exact q
    | need => rw [kids_need] at q; simp_arith; exact q
    | pad => rw [kids_pad] at q; simp_arith; exact q
theorem d_lsize (D : Dfn K mg "_law_size" s_lsize ["part"] f fd) (T : Bn mg) (cC : Fnc P w K mg base 1 "_law_children" (upSp ⟨K, cA⟩ spKids)) (cS : Fnc P w K mg base (n + 1) "_law_size" (upSp ⟨K, cA⟩ (spSize n))) : Fnc P w K mg base (n + 2) "_law_size" (upSp ⟨K, cA⟩ (spSize (n + 1))) := by
  refine D.fnc (def_ok (k := n + 1) D.F sc_lsize (fun cdv A outer s H E hr => (js_cons (js_set (i := 1) sc_lsize.nd rfl (Or.inr rfl) (j_lc (own := [("inner", 2)]) (tt := aYes) (by rfl) sc_lsize.nd (gl_name (i := 2) (by decide)) (ji_seq (j_fc cC hr (by omega) rfl (L2N.passAt (L2N.takes_of rfl rfl rfl rfl)) (ja_cons (jv 0) ja_nil))) (blkOk_by (own := [("inner", 2)]) (N := ["part", "sizes", "inner", "size"]) (sc := defScope s_lsize) (by decide +kernel)) (fun _ _ _ _ _ => (pg_name (i := 2) sc_lsize.nd rfl (Or.inl rfl))) (fun _ _ _ _ _ => jts_nil) (fun _ _ _ _ _ => (j_fc cS hr (by omega) rfl (passN rfl rfl) (ja_cons (jv 2) ja_nil)))))
    (js_cons (js_if (JW.jt (jw_or (jt_cmp (kop_in_seq K) (os_in (neg := false)) (j_ix (kix_lt K) os_ix (jv 0) j_int (fun _ _ => rfl)) (j_lst (ja_cons j_str (ja_cons j_str (ja_cons j_str (ja_cons j_str (ja_cons j_str ja_nil)))))) rfl) (jw_or1 (jt_cmp (kop_in_seq K) (os_in (neg := false)) j_non (jv 1) rfl))))
      (js_one (js_ret j_non))
      js_nil)
    (js_cons (js_if (jt_cmp (op_eqA K hr.units) os_eq (j_ix (kix_lt K) os_ix (jv 0) j_int (fun _ _ => rfl)) j_str (nomark _))
      (js_one (js_ret j_int))
      js_nil)
    (js_cons (js_if (jt_cmp (op_eqA K hr.units) os_eq (j_ix (kix_lt K) os_ix (jv 0) j_int (fun _ _ => rfl)) j_str (nomark _))
      (js_one (js_ret (j_if (jt_cmp (op_eqA K hr.units) os_eq (j_lc (own := [("size", 3)]) (tt := _) (by rfl) sc_lsize.nd (gl_name (i := 3) (by decide)) (ji_seq (jv 1)) (blkOk_by (own := [("size", 3)]) (N := ["part", "sizes", "inner", "size"]) (sc := defScope s_lsize) (by decide +kernel)) (fun _ _ _ _ _ => (pg_name (i := 3) sc_lsize.nd rfl (Or.inl rfl))) (fun _ _ _ _ _ => (jts_one (jt_cmp (op_neA K hr.units) os_ne (jv 3) (j_ix (kix_lt K) os_ix (jv 1) j_int (fun _ _ => rfl)) (nomark _)))) (fun _ _ _ _ _ => (jv 3))) (j_lst ja_nil) (nomark _)) (j_op (op_addA K) os_add j_int (j_ix (kix_lt K) os_ix (jv 1) j_int (fun _ _ => rfl))) j_non)))
      js_nil)
    (js_cons (js_if (jt_cmp (op_eqA K hr.units) os_eq (j_ix (kix_lt K) os_ix (jv 0) j_int (fun _ _ => rfl)) j_str (nomark _))
      (js_one (js_ret (j_op (op_mulB K) os_mul (j_ix (kix_lt K) os_ix (jv 0) j_int (fun _ _ => rfl)) (j_ix (kix_lt K) os_ix (jv 1) j_int (fun _ _ => rfl)))))
      js_nil)
    (js_one (js_ret (j_callB (kcr_sum K rfl rfl) cs_sum (by rfl) T.sum (by decide +kernel) (ja_cons (jv 1) ja_nil)))))))))) ?_ ?_)
  · intro ds S Q E h
    obtain ⟨a, rfl, _⟩ := opt_one h
    rfl
  · intro ds S Q E h
    obtain ⟨d, rfl, hd, q⟩ := opt_one h
    clear h
    have hs := hd.shp
    simp_arith [spKids, spSize]
    refine ⟨hs, lcX_map (fun _ => true) (fun c => oI (sizeP c)) (Nat.le_trans (kids_len hs) (by decide)) (fun x hx Y F hY _ => ?_) ?_⟩
    · simp_arith
      exact ⟨hd.kid hx, hY rfl⟩
    rw [filter_all]
    have e : (kidsD d).map (fun c => oI (sizeP c)) = ((kidsD d).map sizeP).map oI := by simp
    rw [e]
    rw [sizeP_eq] at q
    generalize hss : (kidsD d).map sizeP = ss at q
    have hss' := hss
    have no5 : ∀ {k : Str}, k ∈ (["counted", "within", "fill", "if left", "pad"] : List Str) → sizeB k (numOf (fldOf d 1)) ss = none := fun hk => if_pos (.inl hk)
    have inN : ∀ {k : Str} {m : Int}, none ∈ ss → sizeB k m ss = none := fun hk => if_pos (.inr hk)
    cases hs with
    | cell h =>
      rw [kids_cell] at hss'
      simp only [List.map_nil] at hss'
      rw [← hss'] at q ⊢
      simp_arith
      simpa [sizeB, kdOf, ofString_inj, oI] using q
    | counted => simp_arith; rw [show sizeB _ _ ss = none from no5 (by simp [kdOf])] at q; exact q
    | within => simp_arith; rw [show sizeB _ _ ss = none from no5 (by simp [kdOf])] at q; exact q
    | fill => simp_arith; rw [show sizeB _ _ ss = none from no5 (by simp [kdOf])] at q; exact q
    | ifleft => simp_arith; rw [show sizeB _ _ ss = none from no5 (by simp [kdOf])] at q; exact q
    | pad => simp_arith; rw [show sizeB _ _ ss = none from no5 (by simp [kdOf])] at q; exact q
    | need h0 h =>
      rw [kids_need] at hss'
      simp only [List.map_nil] at hss'
      rw [← hss'] at q ⊢
      simp_arith [A.intsD]
      simpa [sizeB, kdOf, ofString_inj, oI] using q
    | row h =>
      simp_arith [all_oI, any_oI]
      by_cases hn : none ∈ ss
      · rw [inN hn] at q
        rw [if_pos hn]
        exact q
      · rw [if_neg hn]
        obtain ⟨ns, rfl⟩ := somes hn
        rw [map_oI]
        simp_arith [ints_map]
        have q2 : Q (oI (sizeB "row" 0 (ns.map some))) S := q
        rw [sizeB_row] at q2
        exact q2
    | times h0 h =>
      rw [kids_times] at hss'
      simp only [List.map_cons, List.map_nil] at hss'
      rw [← hss'] at q inN ⊢
      rename_i m p
      cases hz : sizeP p with
      | none =>
        rw [hz] at q inN
        simp_arith [hz, oI]
        rw [inN (by simp)] at q
        exact q
      | some x =>
        rw [hz] at q
        simp_arith [hz, oI]
        have q2 : Q (oI (sizeB "times" m [some x])) S := q
        rw [sizeB_times] at q2
        exact ⟨mulL (by omega), q2⟩
    | choice hm h =>
      obtain ⟨h1, h2, h3⟩ := areOpts_mem h
      rename_i m os
      rw [kids_choice] at hss'
      have hne : ss ≠ [] := by
        intro z
        rw [z] at hss'
        simp at hss'
        rw [hss'] at h2
        simp at h2
      simp_arith [all_oI, any_oI]
      by_cases hn : none ∈ ss
      · rw [inN hn] at q
        rw [if_pos hn]
        exact q
      · rw [if_neg hn]
        obtain ⟨ns, rfl⟩ := somes hn
        match ns, hne, q with
        | x :: ns, _, q =>
          rw [map_oI]
          have q2 : Q (oI (sizeB "choice" 0 ((x :: ns).map some))) S := by
            rw [sizeB_choice]
            have q3 : Q (oI (sizeB "choice" (numOf (fldOf (.tup [.str "choice", m, .tup os]) 1)) ((x :: ns).map some))) S := q
            rw [sizeB_choice] at q3
            exact q3
          rw [sizeB_choice] at q2
          simp_arith
          refine lcX_map (fun d => match d with | .int y => decide (¬ y = x) | _ => false) id ?_ (fun z hz Y F hY hF => ?_) ?_
          · have : ((x :: ns).map some).length ≤ 6 := by rw [← hss']; simp; omega
            simp at this ⊢
            omega
          · obtain ⟨y, hy, rfl⟩ := List.mem_map.mp (show z ∈ (x :: ns).map A.D.int from hz)
            simp_arith
            by_cases hyx : y = x
            · have := hF (by simp [hyx])
              simpa [hyx] using this
            · have := hY (by simp [hyx])
              simpa [hyx] using this
          · have e2 : List.map id (List.filter (fun d => match d with | A.D.int y => decide (¬ y = x) | _ => false) (A.D.int x :: ns.map A.D.int)) = (ns.filter fun y => decide (¬ y = x)).map A.D.int := by
              rw [List.map_id, List.filter_cons_of_neg (by simp)]; exact filter_ints
            rw [e2]
            simp_arith [dat_ints, eqL_nil, show dat (.lst []) = true from by decide +kernel]
            by_cases hf : ns.filter (fun y => decide (¬ y = x)) = []
            · rw [if_pos hf] at q2
              rw [if_pos (by rw [hf]; rfl)]
              exact q2
            · rw [if_neg hf] at q2
              rw [if_neg (by simpa using hf)]
              exact q2
end


def Dt (k : Nat) (d : A.D) : Prop := isPd d = true ∧ (pd d).canLay0 = true ∧ (pd d).depth ≤ k
theorem Dt.dat {d : A.D} (h : Dt 62 d) : dat d = true := by
  simp only [A.dat, h.1, SeqAt.shaped, h.2.1, Bool.true_and, decide_eq_true_eq]
  have := h.2.2
  omega
theorem dts {k : Nat} : ∀ {xs : List A.D}, (∀ x ∈ xs, Dt k x) → isPds xs = true ∧ PyData.canLayAll0 (pds xs) = true ∧ PyData.depthAll (pds xs) ≤ k
  | [], _ => ⟨rfl, rfl, Nat.zero_le _⟩
  | x :: r, h => by
    obtain ⟨h1, h2, h3⟩ := h x (by simp)
    obtain ⟨i1, i2, i3⟩ := dts (xs := r) fun y hy => h y (by simp [hy])
    refine ⟨by simp [isPds, h1, i1], by simp [pds, PyData.canLayAll0, h2, i2], ?_⟩
    simp only [pds, PyData.depthAll]
    omega
theorem Dt.tup {k : Nat} {xs : List A.D} (h : ∀ x ∈ xs, Dt k x) : Dt (k + 1) (.tup xs) := by
  obtain ⟨h1, h2, h3⟩ := dts h
  exact ⟨by simpa [isPd] using h1, by simpa [pd, PyData.canLay0] using h2, by simp only [pd, PyData.depth]; omega⟩
theorem Dt.lst {k : Nat} {xs : List A.D} (h : ∀ x ∈ xs, Dt k x) : Dt (k + 1) (.lst xs) := by
  obtain ⟨h1, h2, h3⟩ := dts h
  exact ⟨by simpa [isPd] using h1, by simpa [pd, PyData.canLay0] using h2, by simp only [pd, PyData.depth]; omega⟩
theorem Dt.up {k m : Nat} {d : A.D} (h : Dt k d) (hk : k ≤ m) : Dt m d := ⟨h.1, h.2.1, Nat.le_trans h.2.2 hk⟩
theorem Dt.int {k : Nat} {i : Int} : Dt k (.int i) := ⟨rfl, rfl, Nat.zero_le _⟩
theorem Dt.non {k : Nat} : Dt k .non := ⟨rfl, rfl, Nat.zero_le _⟩
theorem Dt.str {k : Nat} {s : Str} (h : PyData.strOk s = true) : Dt k (.str s) := ⟨rfl, h, Nat.zero_le _⟩
/-- a part as the laws draw them: right, at most h deep -/
structure Gp0 (told : Bool) (h : Nat) (d : A.D) : Prop where
  pr : Pr h d
  asks : told = true → asksP d = false
  unr : unrollP d * 2 ≤ countP d * 2 ^ h
  cnt : 1 ≤ countP d
  dt : Dt (3 * h) d
theorem Pr.mono : ∀ {n m : Nat} {d : A.D}, Pr n d → n ≤ m → Pr m d
  | _, 0, _, .mk _ _ _, h => by omega
  | _, m + 1, _, .mk hs hb hk, h => .mk hs hb fun c hc => (hk c hc).mono (by omega)
theorem pow2 (n : Nat) : (0 : Int) < 2 ^ n := Int.pow_pos (by decide)
theorem pow2_le {n m : Nat} (h : n ≤ m) : (2 : Int) ^ n ≤ 2 ^ m := by
  have : (2 : Int) ^ m = 2 ^ n * 2 ^ (m - n) := by rw [← Int.pow_add]; congr 1; omega
  rw [this]
  have h1 := pow2 n
  have h2 := pow2 (m - n)
  have := Int.mul_le_mul_of_nonneg_left (show (1 : Int) ≤ 2 ^ (m - n) by omega) (Int.le_of_lt h1)
  omega
theorem Gp0.up {told : Bool} {h k : Nat} {d : A.D} (g : Gp0 told h d) (hk : h ≤ k) : Gp0 told k d :=
  ⟨g.pr.mono hk, g.asks, Int.le_trans g.unr (Int.mul_le_mul_of_nonneg_left (pow2_le hk) (by have := g.cnt; omega)), g.cnt, g.dt.up (by omega)⟩
theorem hows_ok {x : Str} (h : x ∈ hows) : PyData.strOk x = true := by
  simp [hows] at h
  rcases h with rfl | rfl <;> decide +kernel
theorem oneOf_of {ss : List Str} {x : Str} (h : x ∈ ss) : isOneOf ss (.str x) = true := by simpa [isOneOf] using h
theorem pow_s (h : Nat) : (2 : Int) ^ (h + 1) = 2 ^ h * 2 := Int.pow_succ _ _
/-! leaves -/
theorem gp0_leaf {told : Bool} {d : A.D} (hs : Shp d) (hb : badP d = false) (hk : kidsD d = []) (ha : told = true → asksP d = false) (hd : Dt 3 d) (hkd : kdOf d ≠ "times") : Gp0 told 1 d := by
  have hc : countP d = 1 := by rw [countP_eq, hk]; rfl
  refine ⟨.mk hs hb (by rw [hk]; simp), ha, ?_, by rw [hc]; decide, hd⟩
  rw [hc, unrollP_eq, hk, if_neg hkd]
  decide
theorem gp0_need {k : Int} (h1 : 1 ≤ k) (h9 : k ≤ 9) : Gp0 false 1 (.tup [.str "need", .int k]) :=
  gp0_leaf (.need h1 h9) (by simp [badP, kdOf, ofString_inj]) kids_need (by simp) ((Dt.tup (k := 0) (by simp; exact ⟨.str (by decide +kernel), .int⟩)).up (by decide)) (by simp [kdOf, ofString_inj])
theorem gp0_pad {told : Bool} {k : Int} {how : Str} (h1 : 2 ≤ k) (h9 : k ≤ 6) (hh : how ∈ hows) : Gp0 told 1 (.tup [.str "pad", .int k, .str how]) :=
  gp0_leaf (.pad h1 h9 (oneOf_of hh)) (by simp [badP, kdOf, ofString_inj]) kids_pad (fun _ => by rw [asksP_eq, kids_pad]; simp [kdOf, ofString_inj]) ((Dt.tup (k := 0) (by simp; exact ⟨.str (by decide +kernel), .int, .str (hows_ok hh)⟩)).up (by decide)) (by simp [kdOf, ofString_inj])
theorem gp0_cell {told : Bool} {lo : Int} {hi : Option Int} {how : Str} (h0 : 0 ≤ lo) (h1 : lo ≤ 1000000) (hi' : ∀ x, hi = some x → lo ≤ x ∧ x ≤ 1000000) (hh : how ∈ hows) : Gp0 told 1 (.tup [.str "cell", .int lo, oI hi, .str how]) := by
  refine gp0_leaf (.cell ?_) (by simp [badP, kdOf, ofString_inj]) kids_cell (fun _ => by rw [asksP_eq, kids_cell]; simp [kdOf, ofString_inj]) ((Dt.tup (k := 0) ?_).up (by decide)) (by simp [kdOf, ofString_inj])
  · cases hi with
    | none => simp [isCellB, isBetw, h0, h1, oneOf_of hh, oI]
    | some x => have := hi' x rfl; simp [isCellB, isBetw, h0, h1, oneOf_of hh, oI, numOf, this]
  · intro x hx
    simp at hx
    rcases hx with rfl | rfl | rfl | rfl
    · exact .str (by decide +kernel)
    · exact .int
    · cases hi with
      | none => exact .non
      | some => exact .int
    · exact .str (hows_ok hh)
/-! sums over parts -/
theorem sum_unr {told : Bool} {h : Nat} : ∀ {ps : List A.D}, (∀ p ∈ ps, Gp0 told h p) → (ps.map unrollP).sum * 2 ≤ (ps.map countP).sum * 2 ^ h ∧ 0 ≤ (ps.map countP).sum ∧ 0 ≤ (ps.map countP).sum - ps.length
  | [], _ => by simp
  | p :: r, hp => by
    have h1 := hp p (by simp)
    have h2 := sum_unr (ps := r) fun q hq => hp q (by simp [hq])
    have h3 := h1.unr
    have h4 := h1.cnt
    simp only [List.map_cons, List.sum_cons, List.length_cons, Int.add_mul]
    refine ⟨by omega, by omega, by omega⟩
/-- a part over right parts -/
theorem gp0_over {told t' : Bool} {h : Nat} {d : A.D} (hs : Shp d) (hb : badP d = false) (hk : ∀ c ∈ kidsD d, Gp0 t' h c) (ha : told = true → asksP d = false) (hd : Dt (3 * (h + 1)) d) (hm : kdOf d = "times" → 0 ≤ numOf (fldOf d 1) ∧ numOf (fldOf d 1) ≤ 2) : Gp0 told (h + 1) d := by
  have hc := countP_eq d
  obtain ⟨s1, s2, _⟩ := sum_unr hk
  refine ⟨.mk hs hb fun c hc => (hk c hc).pr, ha, ?_, by omega, hd⟩
  rw [unrollP_eq, hc, pow_s]
  have hp := pow2 h
  have hf : 0 ≤ (if kdOf d = "times" then numOf (fldOf d 1) else 1) ∧ (if kdOf d = "times" then numOf (fldOf d 1) else 1) ≤ (2 : Int) := by
    split
    · exact hm ‹_›
    · omega
  generalize (if kdOf d = "times" then numOf (fldOf d 1) else 1) = f at hf
  generalize ((kidsD d).map unrollP).sum = U at s1
  generalize ((kidsD d).map countP).sum = C at s1 s2
  generalize (2 : Int) ^ h = H at s1 hp
  have hCH : 0 ≤ C * H := Int.mul_nonneg s2 (Int.le_of_lt hp)
  have k1 : f * U * 2 ≤ C * H * 2 := by
    have h1 : f = 0 ∨ f = 1 ∨ f = 2 := by omega
    rcases h1 with rfl | rfl | rfl <;> omega
  have e1 : (1 + C) * (H * 2) = H * 2 + C * H * 2 := by rw [Int.add_mul, Int.one_mul, Int.mul_assoc]
  rw [e1, Int.add_mul]
  omega
theorem any_false {ps : List A.D} (h : ∀ p ∈ ps, asksP p = false) : (ps.map asksP).any id = false := by
  rw [List.any_map, List.any_eq_false]
  intro p hp
  simp [h p hp]
theorem gp0_row {told : Bool} {h : Nat} {ps : List A.D} (hp : ∀ p ∈ ps, Gp0 told h p) (hl : ps.length ≤ 12) : Gp0 told (h + 1) (.tup [.str "row", .tup ps]) := by
  refine gp0_over (.row hl) (by simp [badP, kdOf, ofString_inj]) (by rw [kids_row]; exact hp) (fun ht => ?_) ?_ (by simp [kdOf, ofString_inj])
  · rw [asksP_eq, kids_row, any_false fun p hp' => (hp p hp').asks ht]
    simp [kdOf, ofString_inj]
  · refine (Dt.tup (k := 3 * h + 1) ?_).up (by omega)
    simp
    exact ⟨.str (by decide +kernel), .tup fun p hp' => (hp p hp').dt⟩
theorem gp0_choice {told : Bool} {h : Nat} {os : List A.D} {how : Str} (hh : how ∈ hows) (ho : areOpts (.tup os) = true) (hp : ∀ o ∈ os, ∃ i p, o = .tup [.int i, p] ∧ Gp0 told h p) : Gp0 told (h + 1) (.tup [.str "choice", .str how, .tup os]) := by
  have hk : ∀ c ∈ kidsD (.tup [.str "choice", .str how, .tup os]), Gp0 told h c := by
    rw [kids_choice]
    intro c hc
    obtain ⟨o, ho', rfl⟩ := List.mem_map.mp hc
    obtain ⟨i, p, rfl, hp'⟩ := hp o ho'
    exact hp'
  refine gp0_over (.choice (oneOf_of hh) ho) (by simp [badP, kdOf, ofString_inj]) hk (fun ht => ?_) ?_ (by simp [kdOf, ofString_inj])
  · rw [asksP_eq, any_false fun p hp' => (hk p hp').asks ht]
    simp [kdOf, ofString_inj]
  · refine (Dt.tup (k := 3 * h + 2) ?_).up (by omega)
    simp
    refine ⟨.str (by decide +kernel), .str (hows_ok hh), .tup fun o ho' => ?_⟩
    obtain ⟨i, p, rfl, hp'⟩ := hp o ho'
    exact .tup (by simp; exact ⟨.int, hp'.dt⟩)
theorem gp0_times {told : Bool} {h : Nat} {m : Int} {p : A.D} (h0 : 0 ≤ m) (h2 : m ≤ 2) (hp : Gp0 told h p) : Gp0 told (h + 1) (.tup [.str "times", .int m, p]) := by
  refine gp0_over (.times h0 (by omega)) (by simp [badP, kdOf, ofString_inj]) (by rw [kids_times]; simp; exact hp) (fun ht => ?_) ?_ (fun _ => by simp [fldOf, itsOf, numOf, h0, h2])
  · rw [asksP_eq, kids_times]
    simp [kdOf, ofString_inj, hp.asks ht]
  · refine (Dt.tup (k := 3 * h) ?_).up (by omega)
    simp
    exact ⟨.str (by decide +kernel), .int, hp.dt⟩
theorem gp0_fill {told : Bool} {h : Nat} {p : A.D} (hp : Gp0 told h p) : Gp0 told (h + 1) (.tup [.str "fill", p]) := by
  refine gp0_over .fill (by simp [badP, kdOf, ofString_inj]) (by rw [kids_fill]; simp; exact hp) (fun ht => ?_) ?_ (by simp [kdOf, ofString_inj])
  · rw [asksP_eq, kids_fill]
    simp [kdOf, ofString_inj, hp.asks ht]
  · refine (Dt.tup (k := 3 * h) ?_).up (by omega)
    simp
    exact ⟨.str (by decide +kernel), hp.dt⟩
theorem gp0_ifleft {told : Bool} {h : Nat} {p : A.D} (hp : Gp0 told h p) : Gp0 told (h + 1) (.tup [.str "if left", p]) := by
  refine gp0_over .ifleft (by simp [badP, kdOf, ofString_inj]) (by rw [kids_ifleft]; simp; exact hp) (fun ht => ?_) ?_ (by simp [kdOf, ofString_inj])
  · rw [asksP_eq, kids_ifleft]
    simp [kdOf, ofString_inj, hp.asks ht]
  · refine (Dt.tup (k := 3 * h) ?_).up (by omega)
    simp
    exact ⟨.str (by decide +kernel), hp.dt⟩
def okN (g : Int) (o : Option Int) : Prop := ∀ x, o = some x → 0 ≤ x ∧ x ≤ g
theorem most_of {g : Int} {o : Option Int} (h : okN g o) : isMost g (oI o) = true := by
  cases o with
  | none => rfl
  | some x => have := h x rfl; simp [isMost, oI, isBetw, this]
theorem dt_oI {k : Nat} {o : Option Int} : Dt k (oI o) := by
  cases o with
  | none => exact .non
  | some => exact .int
theorem gp0_counted {told : Bool} {h : Nat} {how : Str} {most ahead : Option Int} {p : A.D} (hh : how ∈ hows) (hm : okN 9 most) (ha : okN 9 ahead) (hz : ahead ≠ none → told = false ∧ sizeP p ≠ none) (hp : Gp0 told h p) : Gp0 told (h + 1) (.tup [.str "counted", .str how, oI most, oI ahead, p]) := by
  refine gp0_over (.counted (oneOf_of hh) (most_of hm) (most_of ha)) ?_ (by rw [kids_counted]; simp; exact hp) (fun ht => ?_) ?_ (by simp [kdOf, ofString_inj])
  · cases ahead with
    | none => simp [badP, kdOf, ofString_inj, fldOf, itsOf, oI]
    | some x => simp [badP, kdOf, ofString_inj, fldOf, itsOf, oI, (hz (by simp)).2]
  · have : ahead = none := by
      cases ahead with
      | none => rfl
      | some x => have := (hz (by simp)).1; rw [ht] at this; cases this
    subst this
    rw [asksP_eq, kids_counted]
    simp [kdOf, ofString_inj, fldOf, itsOf, oI, hp.asks ht]
  · refine (Dt.tup (k := 3 * h) ?_).up (by omega)
    simp
    exact ⟨.str (by decide +kernel), .str (hows_ok hh), dt_oI, dt_oI, hp.dt⟩
theorem lim_ok {x : Str} (h : x ∈ limits) : PyData.strOk x = true := by
  simp [limits] at h
  rcases h with rfl | rfl | rfl <;> decide +kernel
theorem rest_ok {x : Str} (h : x ∈ rests) : PyData.strOk x = true := by
  simp [rests] at h
  rcases h with rfl | rfl <;> decide +kernel
theorem gp0_within {t' : Bool} {h : Nat} {how lim rest : Str} {most : Option Int} {p : A.D} (hh : how ∈ hows) (hm : okN 20 most) (hl : lim ∈ limits) (hr : rest ∈ rests) (ht : lim = "told" → t' = true) (hp : Gp0 t' h p) : Gp0 false (h + 1) (.tup [.str "within", .str how, oI most, .str lim, .str rest, p]) := by
  refine gp0_over (.within (by simp [isLimitB, oneOf_of hh, most_of hm, oneOf_of hl, oneOf_of hr])) ?_ (by rw [kids_within]; simp; exact hp) (by simp) ?_ (by simp [kdOf, ofString_inj])
  · by_cases e : lim = "told"
    · simp [badP, kdOf, ofString_inj, fldOf, itsOf, e, hp.asks (ht e)]
    · simp [badP, kdOf, ofString_inj, fldOf, itsOf, e]
  · refine (Dt.tup (k := 3 * h) ?_).up (by omega)
    simp
    exact ⟨.str (by decide +kernel), .str (hows_ok hh), dt_oI, .str (lim_ok hl), .str (rest_ok hr), hp.dt⟩
/-! right parts are taken -/
theorem form_of {d : A.D} (h : Shp d) : hasForm d = true := by
  cases h with
  | cell h => simp [hasForm, lens, List.lookup, formB, h]
  | row h => simp [hasForm, lens, List.lookup, formB, rowB, ofString_inj, ofString_beq]; omega
  | choice hm h => simp [hasForm, lens, List.lookup, formB, ofString_inj, ofString_beq, hm, h]
  | times h0 h => simp [hasForm, lens, List.lookup, formB, ofString_inj, ofString_beq, isBetw, h0, h]
  | counted hm ha hb => simp [hasForm, lens, List.lookup, formB, ofString_inj, ofString_beq, hm, ha, hb]
  | within h => simp [hasForm, lens, List.lookup, formB, ofString_inj, ofString_beq, h]
  | fill => simp [hasForm, lens, List.lookup, formB, ofString_inj, ofString_beq]
  | ifleft => simp [hasForm, lens, List.lookup, formB, ofString_inj, ofString_beq]
  | need h0 h => simp [hasForm, lens, List.lookup, formB, ofString_inj, ofString_beq, isBetw, h0, h]
  | pad h0 h ha => simp [hasForm, lens, List.lookup, formB, ofString_inj, ofString_beq, isBetw, h0, h, ha]
theorem fwK_of {F : A.D → List Int → Option (List Int)} {p : List Int} : ∀ {cs : List A.D} {i : Nat}, (∀ c ∈ cs, ∀ q, F c q = none) → fwK F p cs i = none
  | [], _, _ => rfl
  | c :: r, i, h => by
    simp only [fwK]
    rw [h c (by simp)]
    exact fwK_of fun c hc => h c (by simp [hc])
theorem fw_none : ∀ {n : Nat} {d : A.D} {p : List Int}, Pr n d → fwB n d p = none
  | _, _, _, .mk hs hb hk => by
    simp only [fwB]
    rw [if_pos (form_of hs), fwK_of fun c hc q => fw_none (hk c hc)]
    simp [hb]
/-! ### drawn parts, by their kinds -/
def optsD (ns : List Int) (ps : List A.D) : List A.D := List.zipWith (fun i p => .tup [.int i, p]) ns ps
inductive Gp : Bool → Nat → A.D → Prop
  | need {h : Nat} {k : Int} (h1 : 1 ≤ k) (h9 : k ≤ 9) : Gp false (h + 1) (.tup [.str "need", .int k])
  | pad {told : Bool} {h : Nat} {k : Int} {how : Str} (h1 : 2 ≤ k) (h9 : k ≤ 6) (hh : how ∈ hows) : Gp told (h + 1) (.tup [.str "pad", .int k, .str how])
  | cell {told : Bool} {h : Nat} {lo : Int} {hi : Option Int} {how : Str} (h0 : 0 ≤ lo) (h1 : lo ≤ 1000000) (hi' : ∀ x, hi = some x → lo ≤ x ∧ x ≤ 1000000) (hh : how ∈ hows) : Gp told (h + 1) (.tup [.str "cell", .int lo, oI hi, .str how])
  | row {told : Bool} {h : Nat} {ps : List A.D} (hp : ∀ p ∈ ps, Gp told h p) (hl : ps.length ≤ 12) : Gp told (h + 1) (.tup [.str "row", .tup ps])
  | choice {told : Bool} {h : Nat} {ns : List Int} {ps : List A.D} {how : Str} (hh : how ∈ hows) (hn : ns.length = ps.length) (ho : areOpts (.tup (optsD ns ps)) = true) (hp : ∀ p ∈ ps, Gp told h p) : Gp told (h + 1) (.tup [.str "choice", .str how, .tup (optsD ns ps)])
  | times {told : Bool} {h : Nat} {m : Int} {p : A.D} (h0 : 0 ≤ m) (h2 : m ≤ 2) (hp : Gp told h p) : Gp told (h + 1) (.tup [.str "times", .int m, p])
  | fill {told : Bool} {h : Nat} {p : A.D} (hp : Gp told h p) : Gp told (h + 1) (.tup [.str "fill", p])
  | ifleft {told : Bool} {h : Nat} {p : A.D} (hp : Gp told h p) : Gp told (h + 1) (.tup [.str "if left", p])
  | counted {told : Bool} {h : Nat} {how : Str} {most ahead : Option Int} {p : A.D} (hh : how ∈ hows) (hm : okN 9 most) (ha : okN 9 ahead) (hz : ahead ≠ none → told = false ∧ sizeP p ≠ none) (hp : Gp told h p) : Gp told (h + 1) (.tup [.str "counted", .str how, oI most, oI ahead, p])
  | within {t' : Bool} {h : Nat} {how lim rest : Str} {most : Option Int} {p : A.D} (hh : how ∈ hows) (hm : okN 20 most) (hl : lim ∈ limits) (hr : rest ∈ rests) (ht : lim = "told" → t' = true) (hp : Gp t' h p) : Gp false (h + 1) (.tup [.str "within", .str how, oI most, .str lim, .str rest, p])
theorem mem_optsD {o : A.D} : ∀ {ns : List Int} {ps : List A.D}, o ∈ optsD ns ps → ∃ i p, o = .tup [.int i, p] ∧ p ∈ ps
  | [], _, h => by simp [optsD] at h
  | _ :: _, [], h => by simp [optsD] at h
  | n :: ns, p :: ps, h => by
    simp only [optsD, List.zipWith_cons_cons, List.mem_cons] at h
    rcases h with rfl | h
    · exact ⟨n, p, rfl, by simp⟩
    · obtain ⟨i, q, e, hq⟩ := mem_optsD (ns := ns) (ps := ps) h
      exact ⟨i, q, e, by simp [hq]⟩
theorem Gp.to0 : ∀ {told : Bool} {h : Nat} {d : A.D}, Gp told h d → Gp0 told h d
  | _, _, _, .need h1 h9 => (gp0_need h1 h9).up (by omega)
  | _, _, _, .pad h1 h9 hh => (gp0_pad h1 h9 hh).up (by omega)
  | _, _, _, .cell h0 h1 hi hh => (gp0_cell h0 h1 hi hh).up (by omega)
  | _, _, _, .row hp hl => gp0_row (fun p hp' => (hp p hp').to0) hl
  | _, _, _, .choice hh hn ho hp => gp0_choice hh ho fun o ho' => by
    obtain ⟨i, p, rfl, hp'⟩ := mem_optsD ho'
    exact ⟨i, p, rfl, (hp p hp').to0⟩
  | _, _, _, .times h0 h2 hp => gp0_times h0 h2 hp.to0
  | _, _, _, .fill hp => gp0_fill hp.to0
  | _, _, _, .ifleft hp => gp0_ifleft hp.to0
  | _, _, _, .counted hh hm ha hz hp => gp0_counted hh hm ha hz hp.to0
  | _, _, _, .within hh hm hl hr ht hp => gp0_within hh hm hl hr ht hp.to0
theorem Gp.up : ∀ {told : Bool} {h k : Nat} {d : A.D}, Gp told h d → h ≤ k → Gp told k d
  | _, _, 0, _, g, hk => by cases g <;> omega
  | _, _, k + 1, _, .need h1 h9, hk => .need h1 h9
  | _, _, k + 1, _, .pad h1 h9 hh, hk => .pad h1 h9 hh
  | _, _, k + 1, _, .cell h0 h1 hi hh, hk => .cell h0 h1 hi hh
  | _, _, k + 1, _, .row hp hl, hk => .row (fun p hp' => (hp p hp').up (by omega)) hl
  | _, _, k + 1, _, .choice hh hn ho hp, hk => .choice hh hn ho fun p hp' => (hp p hp').up (by omega)
  | _, _, k + 1, _, .times h0 h2 hp, hk => .times h0 h2 (hp.up (by omega))
  | _, _, k + 1, _, .fill hp, hk => .fill (hp.up (by omega))
  | _, _, k + 1, _, .ifleft hp, hk => .ifleft (hp.up (by omega))
  | _, _, k + 1, _, .counted hh hm ha hz hp, hk => .counted hh hm ha hz (hp.up (by omega))
  | _, _, k + 1, _, .within hh hm hl hr ht hp, hk => .within hh hm hl hr ht (hp.up (by omega))
section
variable {told : Bool} {h : Nat} {d : A.D}
theorem Gp.pr (g : Gp told h d) : Pr h d := g.to0.pr
theorem Gp.asks (g : Gp told h d) : told = true → asksP d = false := g.to0.asks
theorem Gp.unr (g : Gp told h d) : unrollP d * 2 ≤ countP d * 2 ^ h := g.to0.unr
theorem Gp.cnt (g : Gp told h d) : 1 ≤ countP d := g.to0.cnt
theorem Gp.dt (g : Gp told h d) : Dt (3 * h) d := g.to0.dt
theorem gp_need {k : Int} (h1 : 1 ≤ k) (h9 : k ≤ 9) : Gp false 1 (.tup [.str "need", .int k]) := .need h1 h9
theorem gp_pad {k : Int} {how : Str} (h1 : 2 ≤ k) (h9 : k ≤ 6) (hh : how ∈ hows) : Gp told 1 (.tup [.str "pad", .int k, .str how]) := .pad h1 h9 hh
theorem gp_cell {lo : Int} {hi : Option Int} {how : Str} (h0 : 0 ≤ lo) (h1 : lo ≤ 1000000) (hi' : ∀ x, hi = some x → lo ≤ x ∧ x ≤ 1000000) (hh : how ∈ hows) : Gp told 1 (.tup [.str "cell", .int lo, oI hi, .str how]) := .cell h0 h1 hi' hh
theorem gp_row {ps : List A.D} (hp : ∀ p ∈ ps, Gp told h p) (hl : ps.length ≤ 12) : Gp told (h + 1) (.tup [.str "row", .tup ps]) := .row hp hl
theorem gp_times {m : Int} {p : A.D} (h0 : 0 ≤ m) (h2 : m ≤ 2) (hp : Gp told h p) : Gp told (h + 1) (.tup [.str "times", .int m, p]) := .times h0 h2 hp
theorem gp_fill {p : A.D} (hp : Gp told h p) : Gp told (h + 1) (.tup [.str "fill", p]) := .fill hp
theorem gp_ifleft {p : A.D} (hp : Gp told h p) : Gp told (h + 1) (.tup [.str "if left", p]) := .ifleft hp
theorem gp_counted {how : Str} {most ahead : Option Int} {p : A.D} (hh : how ∈ hows) (hm : okN 9 most) (ha : okN 9 ahead) (hz : ahead ≠ none → told = false ∧ sizeP p ≠ none) (hp : Gp told h p) : Gp told (h + 1) (.tup [.str "counted", .str how, oI most, oI ahead, p]) := .counted hh hm ha hz hp
theorem gp_within {t' : Bool} {how lim rest : Str} {most : Option Int} {p : A.D} (hh : how ∈ hows) (hm : okN 20 most) (hl : lim ∈ limits) (hr : rest ∈ rests) (ht : lim = "told" → t' = true) (hp : Gp t' h p) : Gp false (h + 1) (.tup [.str "within", .str how, oI most, .str lim, .str rest, p]) := .within hh hm hl hr ht hp
theorem optsD_of : ∀ {os : List A.D}, (∀ o ∈ os, ∃ i p, o = .tup [.int i, p]) → os = optsD (os.map optNum) (os.map optPart)
  | [], _ => rfl
  | o :: os, h => by
    obtain ⟨i, p, rfl⟩ := h o (by simp)
    have := optsD_of (os := os) fun o ho => h o (by simp [ho])
    simp only [List.map_cons, optNum, optPart, optsD, List.zipWith_cons_cons]
    rw [this]
    simp [optsD, optNum, optPart]
theorem gp_choice {os : List A.D} {how : Str} (hh : how ∈ hows) (ho : areOpts (.tup os) = true) (hp : ∀ o ∈ os, ∃ i p, o = .tup [.int i, p] ∧ Gp told h p) : Gp told (h + 1) (.tup [.str "choice", .str how, .tup os]) := by
  have e := optsD_of (os := os) fun o ho' => by obtain ⟨i, p, rfl, _⟩ := hp o ho'; exact ⟨i, p, rfl⟩
  rw [e]
  refine .choice hh (by simp) (by rw [← e]; exact ho) fun p hp' => ?_
  obtain ⟨o, ho', rfl⟩ := List.mem_map.mp hp'
  obtain ⟨i, p, rfl, g⟩ := hp o ho'
  exact g
end

/-- a right part that is small is taken -/
theorem wp_none {d : A.D} (h : Pr 8 d) (hc : countP d ≤ 60) (hu : unrollP d ≤ 1000) : wpP d = none := by
  unfold wpP
  rw [fw_none h]
  simp only
  rw [if_neg (by omega)]
theorem gp_small {told : Bool} {h : Nat} {d : A.D} (g : Gp told h d) (hh : h ≤ 7) (hc : countP d ≤ 15) : wpP d = none ∧ Pr 8 d ∧ Dt 62 d := by
  have hp := pow2_le hh
  have hu := g.unr
  have hc1 := g.cnt
  have h1 := Int.mul_le_mul_of_nonneg_left hp (show 0 ≤ countP d by omega)
  have e : (2 : Int) ^ 7 = 128 := by decide
  rw [e] at h1
  have p8 := g.pr.mono (show h ≤ 8 by omega)
  exact ⟨wp_none p8 (by omega) (by omega), p8, g.dt.up (by omega)⟩
/-- a reader made of a right part -/
theorem rinit_by {S : Sto} {d : A.D} {Q : Sto → Prop} {E : XQ} (hd : Dt 62 d) (hw : wpP d = none) (q : Q (S ++ [rdrO d])) : spRinit [.ref S.length, d] (S ++ [.ins "Reader" []]) (fun v S' => v = .non ∧ Q S') E := by
  refine ⟨S.length, rfl, by simp [insAt], hd.dat, fun _ => ⟨rfl, ?_⟩, fun y hy => by rw [hw] at hy; cases hy⟩
  rw [v_set_push]
  exact q
theorem rdr_get {S : Sto} {r : Nat} {p : A.D} (h : S[r]? = some (rdrO p)) : insOf S (.ref r) "Reader" = some [(("own_part" : Str), p), (("own_level" : Str), .non)] := insOf_of h


theorem Pl.gr {ms : List Nat} {S S' : Sto} {m : Nat} (h : Pl S m) (g : Gr ms S S') (hm : m ∉ ms) : Pl S' m := by
  obtain ⟨o, ho, h2⟩ := h
  exact ⟨o, g.get hm ho, h2⟩
theorem draw_by {m : Nat} {c : Int} {S : Sto} {Q : QD} {E : XQ} (hp : Pl S m) (h0 : 0 < c) (h1 : c < 1073741824) (q : ∀ (x : Int) S', 0 ≤ x → x < c → Gr [m] S S' → Pl S' m → Q (.int x) S') : spDraw [.ref m, .int c] S Q E := ⟨m, c, rfl, hp, h0, h1, fun x S' a b ch d => q x S' a b ch.gr d⟩
theorem at3 {a b c : A.D} {x : Int} (h0 : 0 ≤ x) (h3 : x < 3) {p : A.D → Prop} (ha : p a) (hb : p b) (hc : p c) : ∃ d, atI [a, b, c] x = some d ∧ p d := by
  have : x = 0 ∨ x = 1 ∨ x = 2 := by omega
  rcases this with rfl | rfl | rfl
  · exact ⟨a, rfl, ha⟩
  · exact ⟨b, rfl, hb⟩
  · exact ⟨c, rfl, hc⟩
theorem at2 {a b : A.D} {x : Int} (h0 : 0 ≤ x) (h3 : x < 2) {p : A.D → Prop} (ha : p a) (hb : p b) : ∃ d, atI [a, b] x = some d ∧ p d := by
  have : x = 0 ∨ x = 1 := by omega
  rcases this with rfl | rfl
  · exact ⟨a, rfl, ha⟩
  · exact ⟨b, rfl, hb⟩
theorem at4 {a b c e : A.D} {x : Int} (h0 : 0 ≤ x) (h3 : x < 4) {p : A.D → Prop} (ha : p a) (hb : p b) (hc : p c) (he : p e) : ∃ d, atI [a, b, c, e] x = some d ∧ p d := by
  have : x = 0 ∨ x = 1 ∨ x = 2 ∨ x = 3 := by omega
  rcases this with rfl | rfl | rfl | rfl
  · exact ⟨a, rfl, ha⟩
  · exact ⟨b, rfl, hb⟩
  · exact ⟨c, rfl, hc⟩
  · exact ⟨e, rfl, he⟩
theorem at8 {x : Int} (h0 : 0 ≤ x) (h8 : x < 8) : ∃ i : Int, atI [A.D.int 0, .int 1, .int 2, .int 3, .int 4, .int 7, .int 0, .int 1] x = some (.int i) ∧ 0 ≤ i ∧ i ≤ 7 := by
  have : x = 0 ∨ x = 1 ∨ x = 2 ∨ x = 3 ∨ x = 4 ∨ x = 5 ∨ x = 6 ∨ x = 7 := by omega
  rcases this with rfl | rfl | rfl | rfl | rfl | rfl | rfl | rfl
  · exact ⟨0, rfl, by decide, by decide⟩
  · exact ⟨1, rfl, by decide, by decide⟩
  · exact ⟨2, rfl, by decide, by decide⟩
  · exact ⟨3, rfl, by decide, by decide⟩
  · exact ⟨4, rfl, by decide, by decide⟩
  · exact ⟨7, rfl, by decide, by decide⟩
  · exact ⟨0, rfl, by decide, by decide⟩
  · exact ⟨1, rfl, by decide, by decide⟩

/-! ### parts drawn -/
def RmAt (S : Sto) (r : Nat) (R : Int) : Prop := S[r]? = some (.lst [.int R])
abbrev s_lleaf : Stmt := (topS 70)
theorem sc_lleaf : FnScope ["pool", "how", "told", "kind", "low"] ["pool", "how", "told"] (defScope s_lleaf) := ⟨rfl, rfl, rfl, by decide +kernel, rfl, by decide +kernel, by decide +kernel⟩
abbrev s_lopts : Stmt := (topS 71)
theorem sc_lopts : FnScope ["pool", "room", "depth", "limits", "told", "options", "number"] ["pool", "room", "depth", "limits", "told"] (defScope s_lopts) := ⟨rfl, rfl, rfl, by decide +kernel, rfl, by decide +kernel, by decide +kernel⟩
abbrev s_lctd : Stmt := (topS 72)
theorem sc_lctd : FnScope ["pool", "how", "room", "depth", "limits", "told", "most", "ahead", "inner"] ["pool", "how", "room", "depth", "limits", "told"] (defScope s_lctd) := ⟨rfl, rfl, rfl, by decide +kernel, rfl, by decide +kernel, by decide +kernel⟩
abbrev s_lwth : Stmt := (topS 73)
theorem sc_lwth : FnScope ["pool", "how", "room", "depth", "limits", "most", "limit", "rest"] ["pool", "how", "room", "depth", "limits"] (defScope s_lwth) := ⟨rfl, rfl, rfl, by decide +kernel, rfl, by decide +kernel, by decide +kernel⟩
abbrev s_lpart : Stmt := (topS 74)
theorem sc_lpart : FnScope ["pool", "room", "depth", "limits", "told", "how", "kind", "parts", "turn"] ["pool", "room", "depth", "limits", "told"] (defScope s_lpart) := ⟨rfl, rfl, rfl, by decide +kernel, rfl, by decide +kernel, by decide +kernel⟩
def spLeaf : ASp := fun ds S Q _ => opt (three3 ds) fun p => ∃ m how told, p = (.ref m, .str how, .bl told) ∧ how ∈ hows ∧ Pl S m ∧ ∀ d S', Gr [m] S S' → Pl S' m → countP d = 1 → Gp told 1 d → Q d S'
def spPart : Nat → ASp
  | 0 => fun _ _ _ _ => False
  | h + 1 => fun ds S Q _ => opt (five5 ds) fun p => ∃ (m r : Nat) (dp lim R : Int) (told : Bool), p = (.ref m, .ref r, .int dp, .int lim, .bl told) ∧ Pl S m ∧ RmAt S r R ∧ 1 ≤ R ∧ 0 ≤ dp ∧ dp + h = 6 ∧
    ∀ d S' R', Gr [m, r] S S' → Pl S' m → RmAt S' r R' → 0 ≤ R' → countP d + R' = R → Gp told (h + 1) d → Q d S'
def spOpts (h : Nat) : ASp := fun ds S Q _ => opt (five5 ds) fun p => ∃ (m r : Nat) (dp lim R : Int) (told : Bool), p = (.ref m, .ref r, .int dp, .int lim, .bl told) ∧ Pl S m ∧ RmAt S r R ∧ 1 ≤ R ∧ 0 ≤ dp ∧ dp + h = 7 ∧ dp ≤ 6 ∧
    ∀ os S' R', Gr [m, r] S S' → Pl S' m → RmAt S' r R' → 0 ≤ R' → ((os.map optPart).map countP).sum + R' = R → areOpts (.tup os) = true → (∀ o ∈ os, ∃ i p, o = .tup [.int i, p] ∧ Gp told h p) → Q (.tup os) S'
def spCtd (h : Nat) : ASp := fun ds S Q _ => opt (six6 ds) fun p => ∃ (m r : Nat) (dp lim R : Int) (how : Str) (told : Bool), p = (.ref m, .str how, .ref r, .int dp, .int lim, .bl told) ∧ how ∈ hows ∧ Pl S m ∧ RmAt S r R ∧ 1 ≤ R ∧ 0 ≤ dp ∧ dp + h = 7 ∧ dp ≤ 6 ∧
    ∀ d S' R', Gr [m, r] S S' → Pl S' m → RmAt S' r R' → 0 ≤ R' → countP d + R' = R + 1 → Gp told (h + 1) d → Q d S'
def spWth (h : Nat) : ASp := fun ds S Q _ => opt (five5 ds) fun p => ∃ (m r : Nat) (dp lim R : Int) (how : Str), p = (.ref m, .str how, .ref r, .int dp, .int lim) ∧ how ∈ hows ∧ Pl S m ∧ RmAt S r R ∧ 1 ≤ R ∧ 0 ≤ dp ∧ dp + h = 7 ∧ dp ≤ 6 ∧
    ∀ d S' R', Gr [m, r] S S' → Pl S' m → RmAt S' r R' → 0 ≤ R' → countP d + R' = R + 1 → Gp false (h + 1) d → Q d S'
theorem Pl.ne {S : Sto} {m r : Nat} {R : Int} (h : Pl S m) (hr : RmAt S r R) : m ≠ r := fun z => by
  subst z
  obtain ⟨o, ho, a, b, rfl, _⟩ := h
  rw [RmAt, ho] at hr
  simp at hr
theorem RmAt.gr {ms : List Nat} {S S' : Sto} {r : Nat} {R : Int} (h : RmAt S r R) (g : Gr ms S S') (hm : r ∉ ms) : RmAt S' r R := g.get hm h
theorem leaf_count {d : A.D} (h : kidsD d = []) : countP d = 1 := by rw [countP_eq, h]; rfl
section
variable {P : Program} {w : World} {K : PySem.W.Frag} {cA : Str → Addr} {mg : Str → Option Value} {base : Heap} {f : Addr} {fd : FuncData} {h k : Nat}
theorem d_lleaf (D : Dfn K mg "_law_leaf" s_lleaf ["pool", "how", "told"] f fd) (T : Bn mg) (cD : Fnc P w K mg base 1 "_law_draw" (upSp ⟨K, cA⟩ spDraw)) : Fnc P w K mg base 2 "_law_leaf" (upSp ⟨K, cA⟩ spLeaf) := by
  refine D.fnc (def_ok (k := 1) D.F sc_lleaf (fun cdv A outer s H E hr => (js_cons (js_set (i := 3) sc_lleaf.nd rfl (Or.inl rfl) (j_fc cD hr (by omega) rfl (L2N.passAt (L2N.takes_of rfl rfl rfl rfl)) (ja_cons (jv 0) (ja_cons j_int ja_nil))))
    (js_cons (js_if (JW.jt (jw_and (jt_cmp (op_eqA K hr.units) os_eq (jv 3) j_int (nomark _)) (jw_and1 (jt_not (jt_val (jv 2))))))
      (js_one (js_ret (j_tup (ja_cons j_str (ja_cons (j_op (op_addA K) os_add j_int (j_fc cD hr (by omega) rfl (L2N.passAt (L2N.takes_of rfl rfl rfl rfl)) (ja_cons (jv 0) (ja_cons j_int ja_nil)))) ja_nil)))))
      js_nil)
    (js_cons (js_if (jt_cmp (op_eqA K hr.units) os_eq (jv 3) j_int (nomark _))
      (js_one (js_ret (j_tup (ja_cons j_str (ja_cons (j_ix (kix_lt K) os_ix (j_lst (ja_cons j_int (ja_cons j_int (ja_cons j_int ja_nil)))) (j_fc cD hr (by omega) rfl (L2N.passAt (L2N.takes_of rfl rfl rfl rfl)) (ja_cons (jv 0) (ja_cons j_int ja_nil))) (fun _ _ => rfl)) (ja_cons (jv 1) ja_nil))))))
      js_nil)
    (js_cons (js_set (i := 4) sc_lleaf.nd rfl (Or.inl rfl) (j_ix (kix_lt K) os_ix (j_lst (ja_cons j_int (ja_cons j_int (ja_cons j_int ja_nil)))) (j_fc cD hr (by omega) rfl (L2N.passAt (L2N.takes_of rfl rfl rfl rfl)) (ja_cons (jv 0) (ja_cons j_int ja_nil))) (fun _ _ => rfl)))
    (js_one (js_ret (j_tup (ja_cons j_str (ja_cons (jv 4) (ja_cons (j_ix (kix_lt K) os_ix (j_lst (ja_cons j_non (ja_cons j_non (ja_cons j_int ja_nil)))) (j_fc cD hr (by omega) rfl (L2N.passAt (L2N.takes_of rfl rfl rfl rfl)) (ja_cons (jv 0) (ja_cons j_int ja_nil))) (fun _ _ => rfl)) (ja_cons (jv 1) ja_nil)))))))))))) ?_ ?_)
  · intro ds S Q E h
    obtain ⟨a, b, c, rfl, _⟩ := opt_three h
    rfl
  · intro ds S Q E h
    obtain ⟨x1, x2, x3, rfl, m, how, told, eq, hh, hp, q⟩ := opt_three h
    clear h
    cases eq
    refine seq_by fun N1 hN1 => ?_
    simp_arith
    refine draw_by hp (by decide) (by decide) fun kind S1 k0 k1 g1 p1 => hN1 _ _ (seq_by fun N2 hN2 => ?_)
    clear hN1
    have go : (¬ (kind = 3 ∧ told = false)) → N2 [some (.ref m), some (.str how), some (.bl told), some (.int kind), none] S1 := fun z => by
      refine hN2 _ _ (seq_by fun N3 hN3 => ?_)
      clear hN2
      simp_arith
      split
      · refine draw_by p1 (by decide) (by decide) fun x S2 x0 x1 g2 p2 => ?_
        obtain ⟨d, ed, hd⟩ := at3 x0 x1 (a := .int 2) (b := .int 2) (c := .int 3) (p := fun d => ∃ i : Int, d = .int i ∧ 2 ≤ i ∧ i ≤ 6) ⟨2, rfl, by decide, by decide⟩ ⟨2, rfl, by decide, by decide⟩ ⟨3, rfl, by decide, by decide⟩
        obtain ⟨i, rfl, i2, i6⟩ := hd
        simp_arith [ed]
        exact q _ S2 (g1.trans g2) p2 (leaf_count kids_pad) (gp_pad i2 i6 hh)
      · refine hN3 _ _ (seq_by fun N4 hN4 => ?_)
        clear hN3
        simp_arith
        refine draw_by p1 (by decide) (by decide) fun x S2 x0 x1 g2 p2 => ?_
        obtain ⟨d, ed, hd⟩ := at3 x0 x1 (a := .int 0) (b := .int 0) (c := .int 1) (p := fun d => ∃ i : Int, d = .int i ∧ 0 ≤ i ∧ i ≤ 1) ⟨0, rfl, by decide, by decide⟩ ⟨0, rfl, by decide, by decide⟩ ⟨1, rfl, by decide, by decide⟩
        obtain ⟨lo, rfl, l0, l1⟩ := hd
        simp_arith [ed]
        refine hN4 _ _ ?_
        clear hN4
        simp_arith
        refine draw_by p2 (by decide) (by decide) fun y S3 y0 y1 g3 p3 => ?_
        obtain ⟨d, ed, hd⟩ := at3 y0 y1 (a := .non) (b := .non) (c := .int 2) (p := fun d => ∃ o, d = oI o ∧ ∀ x, o = some x → lo ≤ x ∧ x ≤ 1000000) ⟨none, rfl, by simp⟩ ⟨none, rfl, by simp⟩ ⟨some 2, rfl, by simp; omega⟩
        obtain ⟨o, rfl, ho⟩ := hd
        simp_arith [ed]
        exact q _ S3 ((g1.trans g2).trans g3) p3 (leaf_count kids_cell) (gp_cell l0 (by omega) ho hh)
    simp_arith
    split
    · rename_i z
      cases told with
      | true => simp_arith; exact go (by simp)
      | false =>
        simp_arith
        refine draw_by p1 (by decide) (by decide) fun x S2 x0 x1 g2 p2 => ?_
        try simp_arith
        exact q _ S2 (g1.trans g2) p2 (leaf_count kids_need) (gp_need (by omega) (by omega))
    · rename_i z
      exact go fun z' => z z'.1
end


/-- the numbers of options -/
def optNs : List Int := [0, 2, 3]

def lastN : Int → List A.D → Int
  | last, [] => last
  | _, o :: r => lastN (optNum o) r
theorem optsB_snoc : ∀ {os : List A.D} {last n : Int} {p : A.D}, optsB last os = true → lastN last os + 1 ≤ n → n ≤ 99 → optsB last (os ++ [.tup [.int n, p]]) = true ∧ lastN last (os ++ [.tup [.int n, p]]) = n
  | [], last, n, p, _, h1, h2 => by
    have h1' : last + 1 ≤ n := h1
    exact ⟨by simp [optsB, isOptB, isBetw, h1', h2], rfl⟩
  | o :: r, last, n, p, h, h1, h2 => by
    simp only [optsB, Bool.and_eq_true] at h
    obtain ⟨i1, i2⟩ := optsB_snoc (os := r) (last := optNum o) (n := n) (p := p) h.2 h1 h2
    exact ⟨by simp only [List.cons_append, optsB, h.1, i1, Bool.and_self], i2⟩
theorem take_of {xs : List A.D} {k : Nat} : cutD xs none (some (k : Int)) = xs.take k := by
  unfold cutD
  rw [HT.sIx_none, HT.sIx_nat, List.drop_zero, Nat.sub_zero]
  by_cases h : k ≤ xs.length
  · rw [Nat.min_eq_left h]
  · rw [Nat.min_eq_right (by omega), List.take_of_length_le (Nat.le_refl _), List.take_of_length_le (by omega)]
theorem optNs_ok : List.Pairwise (· < ·) ((-1) :: optNs) ∧ (∀ n ∈ optNs, n ≤ 99) ∧ optNs.length ≤ 6 ∧ 1 ≤ optNs.length := by decide
theorem eq_nil {xs : List A.D} : eqD (.lst xs) (.lst []) = decide (xs = []) := by
  cases xs with
  | nil => rfl
  | cons x xs => rfl
theorem rd_ref {S : Sto} {m : Nat} {xs : List A.D} (h : S[m]? = some (.lst xs)) : rd S (.ref m) = .lst xs := by simp [rd, h]
section
variable {P : Program} {w : World} {K : PySem.W.Frag} {cA : Str → Addr} {mg : Str → Option Value} {base : Heap} {f : Addr} {fd : FuncData} {h k : Nat}
theorem d_lopts (D : Dfn K mg "_law_options" s_lopts ["pool", "room", "depth", "limits", "told"] f fd) (T : Bn mg) (hk : 2 ≤ k) (hh : h ≤ 8) (cD : Fnc P w K mg base 1 "_law_draw" (upSp ⟨K, cA⟩ spDraw)) (cP : Fnc P w K mg base k "_law_part" (upSp ⟨K, cA⟩ (spPart h))) : Fnc P w K mg base (k + 1) "_law_options" (upSp ⟨K, cA⟩ (spOpts h)) := by
  refine D.fnc (def_ok (k := k) D.F sc_lopts (fun cdv A outer s H E hr => (js_cons (js_set (i := 5) sc_lopts.nd rfl (Or.inl rfl) (j_lstM ja_nil))
    (js_cons (js_for (vs := [0, 1, 2, 3, 4, 5, 6]) (gl_name (i := 6) (by decide)) (passes_of rfl) rfl (ji_seq (j_sl (j_lst (ja_cons j_int (ja_cons j_int (ja_cons j_int ja_nil)))) jo_none (jo_some (j_op (op_addA K) os_add j_int (j_fc cD hr (by omega) rfl (L2N.passAt (L2N.takes_of rfl rfl rfl rfl)) (ja_cons (jv 0) (ja_cons j_int ja_nil))))))) (pg_name (i := 6) sc_lopts.nd rfl (Or.inl rfl))
      (js_one (js_if (JW.jt (jw_or (jt_cmp (op_eqA K hr.units) os_eq (jv 5) (j_lst ja_nil) (nomark _)) (jw_or1 (jt_cmp op_gt os_gt (j_ix (kix_lt K) os_ix (jv 1) j_int (fun _ _ => rfl)) j_int (nomark _)))))
        (js_one (js_expr (j_append (jv 5) (ja_cons (j_tup (ja_cons (jv 6) (ja_cons (j_fc cP hr (by omega) rfl (L2N.passAt (L2N.takes_of rfl rfl rfl rfl)) (ja_cons (jv 0) (ja_cons (jv 1) (ja_cons (jv 2) (ja_cons (jv 3) (ja_cons (jv 4) ja_nil)))))) ja_nil))) ja_nil))))
        js_nil)))
    (js_one (js_ret (j_callTy (kcall_tuple_of K) cs_tuple (by rfl) T.tuple (by decide +kernel) (ja_cons (jv 5) ja_nil))))))) ?_ ?_)
  · intro ds S Q E h
    obtain ⟨a, b, c, d, e, rfl, _⟩ := opt_five h
    rfl
  · intro ds S Q E hx
    obtain ⟨x1, x2, x3, x4, x5, rfl, m, r, dp, lim, R, told, eq, hp, hr, hR, hd0, hd7, hd6, q⟩ := opt_five hx
    clear hx
    cases eq
    refine seq_by fun N1 hN1 => ?_
    simp_arith
    refine hN1 _ _ (seq_by fun N2 hN2 => ?_)
    clear hN1
    have hml := (get_lt hp.choose_spec.1)
    have hrl := get_lt hr
    have p1 : Pl (S ++ [O.lst []]) m := hp.gr (ms := []) Gr.app (by simp)
    have r1 : RmAt (S ++ [O.lst []]) r R := hr.gr (ms := []) Gr.app (by simp)
    have o1 : (S ++ [O.lst []])[S.length]? = some (.lst []) := by simp
    have g1 : Gr [m, r] S (S ++ [O.lst []]) := Gr.app
    generalize S ++ [O.lst []] = S1 at p1 r1 o1 g1
    simp_arith
    refine draw_by p1 (by decide) (by decide) fun x S2 x0 x1 g2 p2 => ?_
    obtain ⟨kk, ek⟩ : ∃ kk : Nat, 1 + x = kk := ⟨(1 + x).toNat, by omega⟩
    have mr := p1.ne r1
    have r2 : RmAt S2 r R := r1.gr g2 (by simp; omega)
    have o2 : S2[S.length]? = some (.lst []) := g2.get (by simp; omega) o1
    change forX _ _ _ (cutD (optNs.map A.D.int) none (some (1 + x))) _ _
    rw [ek, take_of, ← List.map_take]
    obtain ⟨pw, p99, pl, _⟩ := optNs_ok
    refine forX_by (fun rr ρ S' => ∃ (ns : List Int) (os : List A.D) (R' : Int) (y : _), rr = ns.map A.D.int ∧ ρ = [some (.ref m), some (.ref r), some (.int dp), some (.int lim), some (.bl told), some (.ref S.length), y] ∧ Gr [m, r] S S' ∧ Pl S' m ∧ RmAt S' r R' ∧ 0 ≤ R' ∧ S'[S.length]? = some (.lst os) ∧ ((os.map optPart).map countP).sum + R' = R ∧
      optsB (-1) os = true ∧ os.length + ns.length ≤ 6 ∧ (os = [] → 1 ≤ ns.length ∧ 1 ≤ R') ∧ (∀ o ∈ os, ∃ i p, o = .tup [.int i, p] ∧ Gp told h p) ∧ List.Pairwise (· < ·) (lastN (-1) os :: ns) ∧ ∀ n ∈ ns, n ≤ 99) ?_ ?_ ?_
    · rintro ρ S3 ⟨ns, os, R', y, e1, rfl, g3, p3, r3, hR', o3, hc, hb, hl, hne, ho, hpw, h99⟩
      have : ns = [] := by simpa using e1.symm
      subst this
      have ne : os ≠ [] := fun z => by have := (hne z).1; simp at this
      refine hN2 _ _ ?_
      simp_arith [lstAt_of o3]
      refine q os S3 R' g3 p3 r3 hR' hc ?_ ho
      have := List.length_pos_iff.mpr ne
      simp only [areOpts, hb, Bool.and_true, Bool.and_eq_true, decide_eq_true_eq]
      simp at hl
      omega
    · rintro z rr ρ S3 ⟨ns, os, R', y, e1, rfl, g3, p3, r3, hR', o3, hc, hb, hl, hne, ho, hpw, h99⟩ F hF
      cases ns with
      | nil => simp at e1
      | cons n ns =>
        simp only [List.map_cons, List.cons.injEq] at e1
        obtain ⟨rfl, e1⟩ := e1
        simp only [List.pairwise_cons, List.mem_cons, forall_eq_or_imp] at hpw h99
        have dtO : Dt (3 * h + 2) (.lst os) := Dt.lst fun o ho' => by
          obtain ⟨i, p, rfl, hp'⟩ := ho o ho'
          exact Dt.tup (by simp; exact ⟨.int, hp'.dt⟩)
        have add : 1 ≤ R' → spPart h [.ref m, .ref r, .int dp, .int lim, .bl told] S3 (fun a S1 => opt (lstAt S1 S.length) fun xs => xs.length < big ∧ F [some (.ref m), some (.ref r), some (.int dp), some (.int lim), some (.bl told), some (.ref S.length), some (.int n)] (S1.set S.length (.lst (xs ++ [.tup [.int n, a]])))) (fun x S1 => E x S1) := fun hR1 => by
          cases h with
          | zero => exact absurd hd7 (by omega)
          | succ h =>
            refine ⟨m, r, dp, lim, R', told, rfl, p3, r3, hR1, hd0, by omega, fun d S4 R4 g4 p4 r4 hR4 hc4 gp => ?_⟩
            have o4 : S4[S.length]? = some (.lst os) := g4.get (by simp; omega) o3
            show opt (lstAt S4 S.length) _
            rw [lstAt_of o4]
            refine ⟨Nat.lt_of_lt_of_le (m := 7) (by simp at hl; omega) (by decide), hF _ _ ⟨ns, os ++ [.tup [.int n, d]], R4, _, e1, rfl, ?_, ?_, ?_, hR4, ?_, ?_, (optsB_snoc hb (by have := hpw.1.1; omega) h99.1).1, by simp at hl ⊢; omega, by simp, ?_, ?_, h99.2⟩⟩
            · have gx : Gr [m, r, S.length] S S4 := (g3.trans g4).up (by simp)
              exact (gx.trans (Gr.set (by simp))).up fun k hk hl => by simp at hk ⊢; omega
            · exact p4.gr (ms := [S.length]) (Gr.set (by simp)) (by simp; omega)
            · exact r4.gr (ms := [S.length]) (Gr.set (by simp)) (by simp; omega)
            · rw [List.getElem?_set_self (get_lt o4)]
            · rw [List.map_append, List.map_append, List.sum_append]
              simp only [List.map_cons, List.map_nil, optPart, List.sum_cons, List.sum_nil]
              omega
            · intro o ho'
              rcases List.mem_append.mp ho' with ho' | ho'
              · exact ho o ho'
              · simp at ho'; subst ho'; exact ⟨n, d, rfl, gp⟩
            · rw [(optsB_snoc hb (by have := hpw.1.1; omega) h99.1).2]
              exact List.pairwise_cons.mpr hpw.2
        unfold gN
        simp_arith [rd_ref o3, (dtO.up (show 3 * h + 2 ≤ 62 by omega)).dat, eq_nil, lstAt_of o3, lstAt_of r3]
        refine ⟨by decide +kernel, ?_⟩
        split
        · rename_i z
          exact add (hne z).2
        · rename_i z
          split
          · rename_i z2
            exact add (by omega)
          · exact hF _ _ ⟨ns, os, R', _, e1, rfl, g3, p3, r3, hR', o3, hc, hb, by simp at hl ⊢; omega, fun z' => absurd z' z, ho, by simp only [List.pairwise_cons]; exact ⟨hpw.1.2, hpw.2.2⟩, h99.2⟩
    · refine ⟨optNs.take kk, [], R, none, rfl, rfl, g1.trans (g2.up (by simp)), p2, r2, by omega, o2, by simp, rfl, by simp; omega, fun _ => ⟨by simp; omega, hR⟩, by simp, ?_, fun n hn => p99 n (List.mem_of_mem_take hn)⟩
      simp only [List.pairwise_cons] at pw ⊢
      exact ⟨fun n hn => pw.1 n (List.mem_of_mem_take hn), pw.2.sublist (List.take_sublist _ _)⟩
end


section
variable {P : Program} {w : World} {K : PySem.W.Frag} {cA : Str → Addr} {mg : Str → Option Value} {base : Heap} {f : Addr} {fd : FuncData} {h k : Nat}
theorem d_lctd (D : Dfn K mg "_law_counted" s_lctd ["pool", "how", "room", "depth", "limits", "told"] f fd) (T : Bn mg) (hk : 2 ≤ k) (hhk : h + 1 ≤ k) (cD : Fnc P w K mg base 1 "_law_draw" (upSp ⟨K, cA⟩ spDraw)) (cS : Fnc P w K mg base (h + 1) "_law_size" (upSp ⟨K, cA⟩ (spSize h))) (cP : Fnc P w K mg base k "_law_part" (upSp ⟨K, cA⟩ (spPart h))) :
    Fnc P w K mg base (k + 1) "_law_counted" (upSp ⟨K, cA⟩ (spCtd h)) := by
  refine D.fnc (def_ok (k := k) D.F sc_lctd (fun cdv A outer s H E hr => (js_cons (js_set (i := 6) sc_lctd.nd rfl (Or.inl rfl) (j_ix (kix_lt K) os_ix (j_lst (ja_cons j_non (ja_cons j_non (ja_cons (j_fc cD hr (by omega) rfl (L2N.passAt (L2N.takes_of rfl rfl rfl rfl)) (ja_cons (jv 0) (ja_cons j_int ja_nil))) ja_nil)))) (j_fc cD hr (by omega) rfl (L2N.passAt (L2N.takes_of rfl rfl rfl rfl)) (ja_cons (jv 0) (ja_cons j_int ja_nil))) (fun _ _ => rfl)))
    (js_cons (js_set (i := 7) sc_lctd.nd rfl (Or.inl rfl) (j_ix (kix_lt K) os_ix (j_lst (ja_cons j_non (ja_cons (j_fc cD hr (by omega) rfl (L2N.passAt (L2N.takes_of rfl rfl rfl rfl)) (ja_cons (jv 0) (ja_cons j_int ja_nil))) ja_nil))) (j_fc cD hr (by omega) rfl (L2N.passAt (L2N.takes_of rfl rfl rfl rfl)) (ja_cons (jv 0) (ja_cons j_int ja_nil))) (fun _ _ => rfl)))
    (js_cons (js_set (i := 8) sc_lctd.nd rfl (Or.inl rfl) (j_fc cP hr (by omega) rfl (L2N.passAt (L2N.takes_of rfl rfl rfl rfl)) (ja_cons (jv 0) (ja_cons (jv 2) (ja_cons (jv 3) (ja_cons (jv 4) (ja_cons (jv 5) ja_nil)))))))
    (js_cons (js_if (JW.jt (jw_or (jt_val (jv 5)) (jw_or1 (jt_cmp op_isN os_is (j_fc cS hr (by omega) rfl (L2N.passAt (L2N.takes_of rfl rfl rfl rfl)) (ja_cons (jv 8) ja_nil)) j_non (nomark _)))))
      (js_one (js_set (i := 7) sc_lctd.nd rfl (Or.inl rfl) j_non))
      js_nil)
    (js_one (js_ret (j_tup (ja_cons j_str (ja_cons (jv 1) (ja_cons (jv 6) (ja_cons (jv 7) (ja_cons (jv 8) ja_nil))))))))))))) ?_ ?_)
  · intro ds S Q E h
    obtain ⟨a, b, c, d, e, g, rfl, _⟩ := opt_six h
    rfl
  · intro ds S Q E hx
    obtain ⟨x1, x2, x3, x4, x5, x6, rfl, m, r, dp, lim, R, how, told, eq, hh, hp, hr, hR, hd0, hd7, hd6, q⟩ := opt_six hx
    clear hx
    cases eq
    have mr := hp.ne hr
    refine seq_by fun N1 hN1 => ?_
    simp_arith
    refine draw_by hp (by decide) (by decide) fun x S1 x0 x1 g1 p1 => ?_
    try simp_arith
    refine draw_by p1 (by decide) (by decide) fun y S2 y0 y1 g2 p2 => ?_
    have r2 : RmAt S2 r R := (hr.gr g1 (by simp; omega)).gr g2 (by simp; omega)
    obtain ⟨d, ed, hd⟩ := at3 y0 y1 (a := .non) (b := .non) (c := .int x) (p := fun d => ∃ o, d = oI o ∧ okN 9 o) ⟨none, rfl, by simp [okN]⟩ ⟨none, rfl, by simp [okN]⟩ ⟨some x, rfl, by simp [okN]; omega⟩
    obtain ⟨most, rfl, hmost⟩ := hd
    simp_arith [ed]
    refine hN1 _ _ (seq_by fun N2 hN2 => ?_)
    clear hN1 ed
    simp_arith
    refine draw_by p2 (by decide) (by decide) fun x' S3 x0' x1' g3 p3 => ?_
    try simp_arith
    refine draw_by p3 (by decide) (by decide) fun y' S4 y0' y1' g4 p4 => ?_
    have r4 : RmAt S4 r R := (r2.gr g3 (by simp; omega)).gr g4 (by simp; omega)
    obtain ⟨d, ed, hd⟩ := at2 y0' y1' (a := .non) (b := .int x') (p := fun d => ∃ o, d = oI o ∧ okN 9 o) ⟨none, rfl, by simp [okN]⟩ ⟨some x', rfl, by simp [okN]; omega⟩
    obtain ⟨ahead, rfl, hahead⟩ := hd
    simp_arith [ed]
    refine hN2 _ _ (seq_by fun N3 hN3 => ?_)
    clear hN2 ed
    simp_arith
    have g04 : Gr [m, r] S S4 := (((g1.trans g2).trans g3).trans g4).up (by simp)
    cases h with
    | zero => exact absurd hd7 (by omega)
    | succ h =>
      refine ⟨m, r, dp, lim, R, told, rfl, p4, r4, hR, hd0, by omega, fun p S5 R5 g5 p5 r5 hR5 hc5 gp => hN3 _ _ (seq_by fun N4 hN4 => ?_)⟩
      clear hN3
      have fin : ∀ ah S6, Gr [m, r] S5 S6 → okN 9 ah → (ah ≠ none → told = false ∧ sizeP p ≠ none) → N4 [some (.ref m), some (.str how), some (.ref r), some (.int dp), some (.int lim), some (.bl told), some (oI most), some (oI ah), some p] S6 → True := fun _ _ _ _ _ _ => trivial
      have done : ∀ ah, okN 9 ah → (ah ≠ none → told = false ∧ sizeP p ≠ none) → N4 [some (.ref m), some (.str how), some (.ref r), some (.int dp), some (.int lim), some (.bl told), some (oI most), some (oI ah), some p] S5 := fun ah h1 h2 => by
        refine hN4 _ _ ?_
        simp_arith
        refine q _ S5 R5 (g04.trans g5) p5 r5 hR5 ?_ (gp_counted hh hmost h1 h2 gp)
        rw [countP_eq, kids_counted]
        simp
        omega
      cases told with
      | true =>
        simp_arith
        exact done none (by simp [okN]) (by simp)
      | false =>
        simp_arith [spSize]
        refine ⟨gp.pr.pw, ?_⟩
        cases hz : sizeP p with
        | none =>
          simp_arith [oI]
          exact done none (by simp [okN]) (by simp)
        | some z =>
          simp_arith [oI]
          exact done ahead hahead fun _ => ⟨rfl, by rw [hz]; simp⟩
theorem d_lwth (D : Dfn K mg "_law_within" s_lwth ["pool", "how", "room", "depth", "limits"] f fd) (T : Bn mg) (hk : 2 ≤ k) (cD : Fnc P w K mg base 1 "_law_draw" (upSp ⟨K, cA⟩ spDraw)) (cP : Fnc P w K mg base k "_law_part" (upSp ⟨K, cA⟩ (spPart h))) :
    Fnc P w K mg base (k + 1) "_law_within" (upSp ⟨K, cA⟩ (spWth h)) := by
  refine D.fnc (def_ok (k := k) D.F sc_lwth (fun cdv A outer s H E hr => (js_cons (js_set (i := 5) sc_lwth.nd rfl (Or.inl rfl) (j_ix (kix_lt K) os_ix (j_lst (ja_cons j_non (ja_cons j_non (ja_cons (j_fc cD hr (by omega) rfl (L2N.passAt (L2N.takes_of rfl rfl rfl rfl)) (ja_cons (jv 0) (ja_cons j_int ja_nil))) ja_nil)))) (j_fc cD hr (by omega) rfl (L2N.passAt (L2N.takes_of rfl rfl rfl rfl)) (ja_cons (jv 0) (ja_cons j_int ja_nil))) (fun _ _ => rfl)))
    (js_cons (js_set (i := 6) sc_lwth.nd rfl (Or.inl rfl) (j_ix (kix_lt K) os_ix (j_lst (ja_cons j_str (ja_cons j_str (ja_cons j_str (ja_cons j_str ja_nil))))) (j_fc cD hr (by omega) rfl (L2N.passAt (L2N.takes_of rfl rfl rfl rfl)) (ja_cons (jv 0) (ja_cons j_int ja_nil))) (fun _ _ => rfl)))
    (js_cons (js_set (i := 7) sc_lwth.nd rfl (Or.inl rfl) (j_ix (kix_lt K) os_ix (j_lst (ja_cons j_str (ja_cons j_str ja_nil))) (j_fc cD hr (by omega) rfl (L2N.passAt (L2N.takes_of rfl rfl rfl rfl)) (ja_cons (jv 0) (ja_cons j_int ja_nil))) (fun _ _ => rfl)))
    (js_one (js_ret (j_tup (ja_cons j_str (ja_cons (jv 1) (ja_cons (jv 5) (ja_cons (jv 6) (ja_cons (jv 7) (ja_cons (j_fc cP hr (by omega) rfl (L2N.passAt (L2N.takes_of rfl rfl rfl rfl)) (ja_cons (jv 0) (ja_cons (jv 2) (ja_cons (jv 3) (ja_cons (j_op (op_addA K) os_add (jv 4) j_int) (ja_cons (j_cmp (op_eqA K hr.units) os_eq (jv 6) j_str (nomark _)) ja_nil)))))) ja_nil))))))))))))) ?_ ?_)
  · intro ds S Q E h
    obtain ⟨a, b, c, d, e, rfl, _⟩ := opt_five h
    rfl
  · intro ds S Q E hx
    obtain ⟨x1, x2, x3, x4, x5, rfl, m, r, dp, lim, R, how, eq, hh, hp, hr, hR, hd0, hd7, hd6, q⟩ := opt_five hx
    clear hx
    cases eq
    have mr := hp.ne hr
    refine seq_by fun N1 hN1 => ?_
    simp_arith
    refine draw_by hp (by decide) (by decide) fun x S1 x0 x1 g1 p1 => ?_
    try simp_arith
    refine draw_by p1 (by decide) (by decide) fun y S2 y0 y1 g2 p2 => ?_
    have r2 : RmAt S2 r R := (hr.gr g1 (by simp; omega)).gr g2 (by simp; omega)
    obtain ⟨d, ed, hd⟩ := at3 y0 y1 (a := .non) (b := .non) (c := .int x) (p := fun d => ∃ o, d = oI o ∧ okN 20 o) ⟨none, rfl, by simp [okN]⟩ ⟨none, rfl, by simp [okN]⟩ ⟨some x, rfl, by simp [okN]; omega⟩
    obtain ⟨most, rfl, hmost⟩ := hd
    simp_arith [ed]
    refine hN1 _ _ (seq_by fun N2 hN2 => ?_)
    clear hN1 ed
    simp_arith
    refine draw_by p2 (by decide) (by decide) fun x' S3 x0' x1' g3 p3 => ?_
    have r3 : RmAt S3 r R := r2.gr g3 (by simp; omega)
    obtain ⟨d, ed, hd⟩ := at4 x0' x1' (a := .str "nested") (b := .str "nested") (c := .str "cut") (e := .str "told") (p := fun d => ∃ l, d = .str l ∧ l ∈ limits) ⟨_, rfl, by simp [limits]⟩ ⟨_, rfl, by simp [limits]⟩ ⟨_, rfl, by simp [limits]⟩ ⟨_, rfl, by simp [limits]⟩
    obtain ⟨l, rfl, hl⟩ := hd
    simp_arith [ed]
    refine hN2 _ _ (seq_by fun N3 hN3 => ?_)
    clear hN2 ed
    simp_arith
    refine draw_by p3 (by decide) (by decide) fun y' S4 y0' y1' g4 p4 => ?_
    have r4 : RmAt S4 r R := r3.gr g4 (by simp; omega)
    obtain ⟨d, ed, hd⟩ := at2 y0' y1' (a := .str "skip") (b := .str "exact") (p := fun d => ∃ l, d = .str l ∧ l ∈ rests) ⟨_, rfl, by simp [rests]⟩ ⟨_, rfl, by simp [rests]⟩
    obtain ⟨rest, rfl, hrest⟩ := hd
    simp_arith [ed]
    refine hN3 _ _ ?_
    clear hN3 ed
    have g04 : Gr [m, r] S S4 := (((g1.trans g2).trans g3).trans g4).up (by simp)
    simp_arith
    cases h with
    | zero => exact absurd hd7 (by omega)
    | succ h =>
      refine ⟨m, r, dp, lim + 1, R, decide (l = "told"), rfl, p4, r4, hR, hd0, by omega, fun p S5 R5 g5 p5 r5 hR5 hc5 gp => ?_⟩
      try simp_arith
      refine q _ S5 R5 (g04.trans g5) p5 r5 hR5 ?_ (gp_within hh hmost hl hrest (fun e => by simp [e]) gp)
      rw [countP_eq, kids_within]
      simp
      omega
end


section
variable {P : Program} {w : World} {K : PySem.W.Frag} {cA : Str → Addr} {mg : Str → Option Value} {base : Heap} {f : Addr} {fd : FuncData} {h k : Nat}
theorem d_lpart (D : Dfn K mg "_law_part" s_lpart ["pool", "room", "depth", "limits", "told"] f fd) (T : Bn mg) (hk : 3 ≤ k) (cD : Fnc P w K mg base 1 "_law_draw" (upSp ⟨K, cA⟩ spDraw)) (cL : Fnc P w K mg base 2 "_law_leaf" (upSp ⟨K, cA⟩ spLeaf)) (cP : Fnc P w K mg base k "_law_part" (upSp ⟨K, cA⟩ (spPart h)))
    (cO : Fnc P w K mg base (k + 1) "_law_options" (upSp ⟨K, cA⟩ (spOpts h))) (cC : Fnc P w K mg base (k + 1) "_law_counted" (upSp ⟨K, cA⟩ (spCtd h))) (cW : Fnc P w K mg base (k + 1) "_law_within" (upSp ⟨K, cA⟩ (spWth h))) :
    Fnc P w K mg base (k + 2) "_law_part" (upSp ⟨K, cA⟩ (spPart (h + 1))) := by
  refine D.fnc (def_ok (k := k + 1) D.F sc_lpart (fun cdv A outer s H E hr => (js_cons (js_putL (jv 1) j_int (j_op op_sub os_sub (j_ix (kix_lt K) os_ix (jv 1) j_int (fun _ _ => rfl)) j_int))
    (js_cons (js_set (i := 5) sc_lpart.nd rfl (Or.inl rfl) (j_ix (kix_lt K) os_ix (j_lst (ja_cons j_str (ja_cons j_str (ja_cons j_str ja_nil)))) (j_fc cD hr (by omega) rfl (L2N.passAt (L2N.takes_of rfl rfl rfl rfl)) (ja_cons (jv 0) (ja_cons j_int ja_nil))) (fun _ _ => rfl)))
    (js_cons (js_set (i := 6) sc_lpart.nd rfl (Or.inl rfl) (j_fc cD hr (by omega) rfl (L2N.passAt (L2N.takes_of rfl rfl rfl rfl)) (ja_cons (jv 0) (ja_cons j_int ja_nil))))
    (js_cons (js_if (JW.jt (jw_or (jt_cmp op_lt os_lt (jv 6) j_int (nomark _)) (jw_or (jt_cmp op_lt os_lt (j_ix (kix_lt K) os_ix (jv 1) j_int (fun _ _ => rfl)) j_int (nomark _)) (jw_or1 (jt_cmp op_gt os_gt (jv 2) j_int (nomark _))))))
      (js_one (js_ret (j_fc cL hr (by omega) rfl (L2N.passAt (L2N.takes_of rfl rfl rfl rfl)) (ja_cons (jv 0) (ja_cons (jv 5) (ja_cons (jv 4) ja_nil))))))
      js_nil)
    (js_cons (js_if (jt_cmp op_lt os_lt (jv 6) j_int (nomark _))
      (js_cons (js_set (i := 7) sc_lpart.nd rfl (Or.inl rfl) (j_lstM ja_nil))
      (js_cons (js_for (vs := [0, 1, 2, 3, 4, 5, 6, 7, 8]) (gl_name (i := 8) (by decide)) (passes_of rfl) rfl (ji_range1 rfl T.range (ja_cons (j_fc cD hr (by omega) rfl (L2N.passAt (L2N.takes_of rfl rfl rfl rfl)) (ja_cons (jv 0) (ja_cons j_int ja_nil))) ja_nil)) (pg_name (i := 8) sc_lpart.nd rfl (Or.inl rfl))
        (js_one (js_if (jt_cmp op_gt os_gt (j_ix (kix_lt K) os_ix (jv 1) j_int (fun _ _ => rfl)) j_int (nomark _))
          (js_one (js_expr (j_append (jv 7) (ja_cons (j_fc cP hr (by omega) rfl (L2N.passAt (L2N.takes_of rfl rfl rfl rfl)) (ja_cons (jv 0) (ja_cons (jv 1) (ja_cons (j_op (op_addA K) os_add (jv 2) j_int) (ja_cons (jv 3) (ja_cons (jv 4) ja_nil)))))) ja_nil))))
          js_nil)))
      (js_one (js_ret (j_tup (ja_cons j_str (ja_cons (j_callTy (kcall_tuple_of K) cs_tuple (by rfl) T.tuple (by decide +kernel) (ja_cons (jv 7) ja_nil)) ja_nil)))))))
      js_nil)
    (js_cons (js_if (jt_cmp (op_eqA K hr.units) os_eq (jv 6) j_int (nomark _))
      (js_one (js_ret (j_tup (ja_cons j_str (ja_cons (jv 5) (ja_cons (j_fc cO hr (by omega) rfl (L2N.passAt (L2N.takes_of rfl rfl rfl rfl)) (ja_cons (jv 0) (ja_cons (jv 1) (ja_cons (j_op (op_addA K) os_add (jv 2) j_int) (ja_cons (jv 3) (ja_cons (jv 4) ja_nil)))))) ja_nil))))))
      js_nil)
    (js_cons (js_if (jt_cmp (op_eqA K hr.units) os_eq (jv 6) j_int (nomark _))
      (js_one (js_ret (j_tup (ja_cons j_str (ja_cons (j_fc cD hr (by omega) rfl (L2N.passAt (L2N.takes_of rfl rfl rfl rfl)) (ja_cons (jv 0) (ja_cons j_int ja_nil))) (ja_cons (j_fc cP hr (by omega) rfl (L2N.passAt (L2N.takes_of rfl rfl rfl rfl)) (ja_cons (jv 0) (ja_cons (jv 1) (ja_cons (j_op (op_addA K) os_add (jv 2) j_int) (ja_cons (jv 3) (ja_cons (jv 4) ja_nil)))))) ja_nil))))))
      js_nil)
    (js_cons (js_if (JW.jt (jw_or (jt_cmp (op_eqA K hr.units) os_eq (jv 6) j_int (nomark _)) (jw_or1 (JW.jt (jw_and (jt_cmp (op_eqA K hr.units) os_eq (jv 6) j_int (nomark _)) (jw_and1 (JW.jt (jw_or (jt_val (jv 4)) (jw_or1 (jt_cmp op_gt os_gt (jv 3) j_int (nomark _)))))))))))
      (js_one (js_ret (j_fc cC hr (by omega) rfl (L2N.passAt (L2N.takes_of rfl rfl rfl rfl)) (ja_cons (jv 0) (ja_cons (jv 5) (ja_cons (jv 1) (ja_cons (j_op (op_addA K) os_add (jv 2) j_int) (ja_cons (jv 3) (ja_cons (jv 4) ja_nil)))))))))
      js_nil)
    (js_cons (js_if (jt_cmp (op_eqA K hr.units) os_eq (jv 6) j_int (nomark _))
      (js_one (js_ret (j_fc cW hr (by omega) rfl (L2N.passAt (L2N.takes_of rfl rfl rfl rfl)) (ja_cons (jv 0) (ja_cons (jv 5) (ja_cons (jv 1) (ja_cons (j_op (op_addA K) os_add (jv 2) j_int) (ja_cons (jv 3) ja_nil))))))))
      js_nil)
    (js_one (js_ret (j_tup (ja_cons (j_ix (kix_lt K) os_ix (j_lst (ja_cons j_str (ja_cons j_str ja_nil))) (j_op op_sub os_sub (jv 6) j_int) (fun _ _ => rfl)) (ja_cons (j_fc cP hr (by omega) rfl (L2N.passAt (L2N.takes_of rfl rfl rfl rfl)) (ja_cons (jv 0) (ja_cons (jv 1) (ja_cons (j_op (op_addA K) os_add (jv 2) j_int) (ja_cons (jv 3) (ja_cons (jv 4) ja_nil)))))) ja_nil))))))))))))))) ?_ ?_)
  · intro ds S Q E h
    obtain ⟨a, b, c, d, e, rfl, _⟩ := opt_five h
    rfl
  · intro ds S Q E hx
    obtain ⟨x1, x2, x3, x4, x5, rfl, m, r, dp, lim, R, told, eq, hp, hr, hR, hd0, hd6, q⟩ := opt_five hx
    clear hx
    cases eq
    have mr := hp.ne hr
    have i0 : ∀ u : A.D, atI [u] 0 = some u := fun u => rfl
    have x0 : ixN 1 0 = some 0 := rfl
    refine seq_by fun N1 hN1 => ?_
    simp_arith [lstAt_of hr, i0, x0]
    refine hN1 _ _ (seq_by fun N2 hN2 => ?_)
    clear hN1
    have rl := get_lt hr
    have r1 : RmAt (S.set r (.lst [.int (R - 1)])) r (R - 1) := get_set rl
    have p1 : Pl (S.set r (.lst [.int (R - 1)])) m := hp.gr (ms := [r]) (Gr.set (by simp)) (by simp; omega)
    have g1 : Gr [m, r] S (S.set r (.lst [.int (R - 1)])) := Gr.set (by simp)
    generalize S.set r (.lst [.int (R - 1)]) = S1 at r1 p1 g1
    simp_arith
    refine draw_by p1 (by decide) (by decide) fun x S2 x0 x1 g2 p2 => ?_
    have r2 : RmAt S2 r (R - 1) := r1.gr g2 (by simp; omega)
    obtain ⟨d, ed, hd⟩ := at3 x0 x1 (a := .str "checked") (b := .str "checked") (c := .str "bare") (p := fun d => ∃ x, d = .str x ∧ x ∈ hows) ⟨_, rfl, by simp [hows]⟩ ⟨_, rfl, by simp [hows]⟩ ⟨_, rfl, by simp [hows]⟩
    obtain ⟨how, rfl, hhow⟩ := hd
    simp_arith [ed]
    refine hN2 _ _ (seq_by fun N3 hN3 => ?_)
    clear hN2 ed
    simp_arith
    refine draw_by p2 (by decide) (by decide) fun kind S3 k0 k1 g3 p3 => hN3 _ _ (seq_by fun N4 hN4 => ?_)
    clear hN3
    have r3 : RmAt S3 r (R - 1) := r2.gr g3 (by simp; omega)
    have g03 : Gr [m, r] S S3 := (g1.trans (g2.up (by simp))).trans (g3.up (by simp))
    have leaf : ∀ {E' : XQ}, spLeaf [.ref m, .str how, .bl told] S3 Q E' := fun {E'} => by
      refine ⟨m, how, told, rfl, hhow, p3, fun d S4 g4 p4 hc gp => ?_⟩
      exact q d S4 (R - 1) (g03.trans (g4.up (by simp))) p4 (r3.gr g4 (by simp; omega)) (by omega) (by omega) (gp.up (by omega))
    have part : ∀ {lm : Int} {tl : Bool} {Q' : QD} {E' : XQ} {S' : Sto} {R' : Int}, dp ≤ 5 → Pl S' m → RmAt S' r R' → 1 ≤ R' → (∀ d S'' R'', Gr [m, r] S' S'' → Pl S'' m → RmAt S'' r R'' → 0 ≤ R'' → countP d + R'' = R' → Gp tl h d → Q' d S'') → spPart h [.ref m, .ref r, .int (dp + 1), .int lm, .bl tl] S' Q' E' := by
      intro lm tl Q' E' S' R' hd5 p' r' hR' q'
      cases h with
      | zero => exact absurd hd6 (by omega)
      | succ h => exact ⟨m, r, dp + 1, lm, R', tl, rfl, p', r', hR', by omega, by omega, q'⟩
    have go : 3 ≤ kind → 1 ≤ R - 1 → dp ≤ 5 → N4 [some (.ref m), some (.ref r), some (.int dp), some (.int lim), some (.bl told), some (.str how), some (.int kind), none, none] S3 := fun h3 hR1 hd5 => by
      refine hN4 _ _ (seq_by fun N5 hN5 => ?_)
      clear hN4
      simp_arith
      split
      · rename_i z
        have o4 : (S3 ++ [O.lst []])[S3.length]? = some (.lst []) := by simp
        have p4 : Pl (S3 ++ [O.lst []]) m := p3.gr (ms := []) Gr.app (by simp)
        have r4 : RmAt (S3 ++ [O.lst []]) r (R - 1) := r3.gr (ms := []) Gr.app (by simp)
        have g4 : Gr [m, r] S3 (S3 ++ [O.lst []]) := Gr.app
        have ml := get_lt p3.choose_spec.1
        have rl3 := get_lt r3
        generalize S3 ++ [O.lst []] = S4 at o4 p4 r4 g4
        refine draw_by p4 (by decide) (by decide) fun c S5 c0 c1 g5 p5 => ?_
        have o5 : S5[S3.length]? = some (.lst []) := g5.get (by simp; omega) o4
        have r5 : RmAt S5 r (R - 1) := r4.gr g5 (by simp; omega)
        try simp_arith
        refine ⟨⟨by omega, by omega⟩, ?_⟩
        refine forX_by (fun rr ρ S' => ∃ (ps : List A.D) (R' : Int) (y : _), ρ = [some (.ref m), some (.ref r), some (.int dp), some (.int lim), some (.bl told), some (.str how), some (.int kind), some (.ref S3.length), y] ∧ Gr [m, r] S3 S' ∧ Pl S' m ∧ RmAt S' r R' ∧ 0 ≤ R' ∧ S'[S3.length]? = some (.lst ps) ∧ (ps.map countP).sum + R' = R - 1 ∧
          ps.length + rr.length ≤ 4 ∧ ∀ p ∈ ps, Gp told h p) ?_ ?_ ?_
        · rintro ρ S6 ⟨ps, R', y, rfl, g6, p6, r6, hR', o6, hc, hl, hps⟩
          simp_arith [lstAt_of o6]
          refine q _ S6 R' (g03.trans g6) p6 r6 hR' ?_ (gp_row hps (by simp at hl; omega))
          rw [countP_eq, kids_row]
          omega
        · rintro z rr ρ S6 ⟨ps, R', y, rfl, g6, p6, r6, hR', o6, hc, hl, hps⟩ F hF
          simp_arith [lstAt_of r6, lstAt_of o6, i0]
          split
          · rename_i z2
            refine part hd5 p6 r6 (by omega) fun d S7 R7 g7 p7 r7 hR7 hc7 gp => ?_
            have o7 : S7[S3.length]? = some (.lst ps) := g7.get (by simp; omega) o6
            simp_arith [lstAt_of o7]
            refine ⟨Nat.lt_of_lt_of_le (m := 7) (by simp at hl; omega) (by decide), hF _ _ ⟨ps ++ [d], R7, _, rfl, ?_, ?_, ?_, hR7, ?_, ?_, by simp at hl ⊢; omega, ?_⟩⟩
            · have gx : Gr [m, r, S3.length] S3 S7 := (g6.trans g7).up (by simp)
              exact (gx.trans (Gr.set (by simp))).up fun k hk hl => by simp at hk ⊢; omega
            · exact p7.gr (ms := [S3.length]) (Gr.set (by simp)) (by simp; omega)
            · exact r7.gr (ms := [S3.length]) (Gr.set (by simp)) (by simp; omega)
            · rw [List.getElem?_set_self (get_lt o7)]
            · rw [List.map_append, List.sum_append]
              simp only [List.map_cons, List.map_nil, List.sum_cons, List.sum_nil]
              omega
            · intro p hp'
              rcases List.mem_append.mp hp' with hp' | hp'
              · exact hps p hp'
              · simp at hp'; subst hp'; exact gp
          · exact hF _ _ ⟨ps, R', _, rfl, g6, p6, r6, hR', o6, hc, by simp at hl ⊢; omega, hps⟩
        · exact ⟨[], R - 1, none, rfl, g4.trans (g5.up (by simp)), p5, r5, by omega, o5, by simp, by simp [rng]; omega, by simp⟩
      · rename_i z
        refine hN5 _ _ (seq_by fun N6 hN6 => ?_)
        clear hN5
        simp_arith
        split
        · refine ⟨m, r, dp + 1, lim, R - 1, told, rfl, p3, r3, hR1, by omega, by omega, by omega, fun os S4 R4 g4 p4 r4 hR4 hc ho hos => ?_⟩
          try simp_arith
          refine q _ S4 R4 (g03.trans g4) p4 r4 hR4 ?_ (gp_choice hhow ho hos)
          rw [countP_eq, kids_choice]
          omega
        · rename_i z5
          refine hN6 _ _ (seq_by fun N7 hN7 => ?_)
          clear hN6
          simp_arith
          split
          · refine draw_by p3 (by decide) (by decide) fun c S4 c0 c1 g4 p4 => ?_
            refine part hd5 p4 (r3.gr g4 (by simp; omega)) hR1 fun d S5 R5 g5 p5 r5 hR5 hc5 gp => ?_
            try simp_arith
            refine q _ S5 R5 ((g03.trans (g4.up (by simp))).trans g5) p5 r5 hR5 ?_ (gp_times c0 (by omega) gp)
            rw [countP_eq, kids_times]
            simp
            omega
          · rename_i z6
            refine hN7 _ _ (seq_by fun N8 hN8 => ?_)
            clear hN7
            have ctd : spCtd h [.ref m, .str how, .ref r, .int (dp + 1), .int lim, .bl told] S3 Q E := ⟨m, r, dp + 1, lim, R - 1, how, told, rfl, hhow, p3, r3, hR1, by omega, by omega, by omega, fun d S4 R4 g4 p4 r4 hR4 hc gp => q d S4 R4 (g03.trans g4) p4 r4 hR4 (by omega) gp⟩
            have next : kind ≠ 7 → (kind = 8 → told = false) → N8 [some (.ref m), some (.ref r), some (.int dp), some (.int lim), some (.bl told), some (.str how), some (.int kind), none, none] S3 := fun z7 z8 => by
              refine hN8 _ _ (seq_by fun N9 hN9 => ?_)
              clear hN8
              simp_arith
              split
              · rename_i z9
                have := z8 z9
                subst this
                exact ⟨m, r, dp + 1, lim, R - 1, how, rfl, hhow, p3, r3, hR1, by omega, by omega, by omega, fun d S4 R4 g4 p4 r4 hR4 hc gp => q d S4 R4 (g03.trans g4) p4 r4 hR4 (by omega) gp⟩
              · rename_i z9
                refine hN9 _ _ ?_
                clear hN9
                have hk9 : kind = 9 ∨ kind = 10 := by omega
                rcases hk9 with rfl | rfl
                · simp_arith
                  refine part hd5 p3 r3 hR1 fun d S5 R5 g5 p5 r5 hR5 hc5 gp => ?_
                  try simp_arith
                  refine q _ S5 R5 (g03.trans g5) p5 r5 hR5 ?_ (gp_fill gp)
                  rw [countP_eq, kids_fill]
                  simp
                  omega
                · simp_arith
                  refine part hd5 p3 r3 hR1 fun d S5 R5 g5 p5 r5 hR5 hc5 gp => ?_
                  try simp_arith
                  refine q _ S5 R5 (g03.trans g5) p5 r5 hR5 ?_ (gp_ifleft gp)
                  rw [countP_eq, kids_ifleft]
                  simp
                  omega
            by_cases z7 : kind = 7
            · simp_arith [z7]
              exact ctd
            · by_cases z8 : kind = 8
              · subst z8
                cases told with
                | true => simp_arith; exact ctd
                | false =>
                  simp_arith
                  split
                  · exact ctd
                  · exact next (by decide) fun _ => rfl
              · simp_arith [z7, z8]
                exact next z7 fun z => absurd z z8
    simp_arith [lstAt_of r3, i0]
    split
    · exact leaf
    · rename_i z
      split
      · exact leaf
      · split
        · exact leaf
        · exact go (by omega) (by omega) (by omega)
end


/-! ### all parts with their paths -/
abbrev s_sub : Stmt := (topS 44)
theorem sc_sub : FnScope ["part", "found", "index", "inner", "path", "below"] ["part"] (defScope s_sub) := ⟨rfl, rfl, rfl, by decide +kernel, rfl, by decide +kernel, by decide +kernel⟩
abbrev s_partat : Stmt := (topS 46)
theorem sc_partat : FnScope ["part", "path", "index"] ["part", "path"] (defScope s_partat) := ⟨rfl, rfl, rfl, by decide +kernel, rfl, by decide +kernel, by decide +kernel⟩
def prP (e : List Int × A.D) : A.D := .tup [pathD e.1, e.2]
def subK (F : A.D → List (List Int × A.D)) : Int → List A.D → List (List Int × A.D)
  | _, [] => []
  | i, c :: r => (F c).map (fun e => (i :: e.1, e.2)) ++ subK F (i + 1) r
def subP : Nat → A.D → List (List Int × A.D)
  | 0, _ => []
  | n + 1, d => ([], d) :: subK (subP n) 0 (kidsD d)
theorem subK_app {F : A.D → List (List Int × A.D)} : ∀ {xs ys : List A.D} {i : Int}, subK F i (xs ++ ys) = subK F i xs ++ subK F (i + xs.length) ys
  | [], ys, i => by simp [subK]
  | x :: xs, ys, i => by
    simp only [List.cons_append, subK, List.append_assoc, subK_app (xs := xs), List.length_cons, Int.natCast_succ]
    rw [show i + 1 + (xs.length : Int) = i + ((xs.length : Int) + 1) by omega]
theorem subK_len {F : A.D → List (List Int × A.D)} {g : A.D → Int} : ∀ {xs : List A.D} {i : Int}, (∀ x ∈ xs, ((F x).length : Int) = g x) → ((subK F i xs).length : Int) = (xs.map g).sum
  | [], _, _ => rfl
  | x :: xs, i, h => by
    have h1 := h x (by simp)
    have h2 := subK_len (F := F) (g := g) (xs := xs) (i := i + 1) fun y hy => h y (by simp [hy])
    simp only [subK, List.length_append, List.length_map, List.map_cons, List.sum_cons, Int.natCast_add, h1, h2]
theorem sub_len : ∀ {n : Nat} {d : A.D}, Pw n d → ((subP n d).length : Int) = countP d
  | 0, d, h => by cases h
  | n + 1, d, h => by
    rw [countP_eq]
    simp only [subP, List.length_cons, Int.natCast_succ]
    rw [subK_len (g := countP) fun x hx => sub_len (h.kid hx)]
    omega
theorem mem_subK {F : A.D → List (List Int × A.D)} {e : List Int × A.D} : ∀ {xs : List A.D} {i : Int}, e ∈ subK F i xs → ∃ (j : Nat) (c : A.D) (p : List Int), xs[j]? = some c ∧ (p, e.2) ∈ F c ∧ e.1 = (i + j) :: p
  | [], _, h => by simp [subK] at h
  | x :: xs, i, h => by
    simp only [subK, List.mem_append, List.mem_map] at h
    rcases h with ⟨a, ha, rfl⟩ | h
    · exact ⟨0, x, a.1, by simp, ha, by simp⟩
    · obtain ⟨j, c, p, h1, h2, h3⟩ := mem_subK h
      exact ⟨j + 1, c, p, by simpa using h1, h2, by rw [h3]; congr 1; simp; omega⟩
theorem pd_kid {d c : A.D} (hs : Shp d) (h : isPd d = true) (hc : c ∈ kidsD d) : isPd c = true := by
  have all : ∀ {xs : List A.D}, isPds xs = true → ∀ x ∈ xs, isPd x = true := by
    intro xs
    induction xs with
    | nil => simp
    | cons y r ih =>
      intro h x hx
      have h' : isPd y = true ∧ isPds r = true := by simpa [isPds] using h
      rcases List.mem_cons.mp hx with rfl | hx
      · exact h'.1
      · exact ih h'.2 x hx
  cases hs with
  | row => rw [kids_row] at hc; simp [isPd, isPds] at h; exact all h c hc
  | choice =>
    rw [kids_choice] at hc
    simp [isPd, isPds] at h
    obtain ⟨o, ho, rfl⟩ := List.mem_map.mp hc
    have h1 := all h.2 o ho
    unfold optPart
    split
    · simp [isPd, isPds] at h1; exact h1.2
    · rfl
  | cell => rw [kids_cell] at hc; simp at hc
  | need => rw [kids_need] at hc; simp at hc
  | pad => rw [kids_pad] at hc; simp at hc
  | times => rw [kids_times] at hc; simp at hc; subst hc; simp [isPd, isPds] at h; exact h
  | counted => rw [kids_counted] at hc; simp at hc; subst hc; simp [isPd, isPds] at h; exact h.2.2.2
  | within => rw [kids_within] at hc; simp at hc; subst hc; simp [isPd, isPds] at h; exact h.2.2.2.2
  | fill => rw [kids_fill] at hc; simp at hc; subst hc; simp [isPd, isPds] at h; exact h
  | ifleft => rw [kids_ifleft] at hc; simp at hc; subst hc; simp [isPd, isPds] at h; exact h
theorem sub_pd : ∀ {n : Nat} {d : A.D}, Pw n d → isPd d = true → ∀ e ∈ subP n d, isPd e.2 = true
  | 0, d, h, _ => by cases h
  | n + 1, d, h, hd => by
    intro e he
    rcases List.mem_cons.mp he with rfl | he
    · exact hd
    · obtain ⟨j, c, p, h1, h2, _⟩ := mem_subK he
      have hc := List.mem_of_getElem? h1
      exact sub_pd (h.kid hc) (pd_kid h.shp hd hc) (p, e.2) h2
theorem pds_of {xs : List A.D} (h : ∀ x ∈ xs, isPd x = true) : isPds xs = true := by
  induction xs with
  | nil => rfl
  | cons x r ih => simp [isPds, h x (by simp), ih fun y hy => h y (by simp [hy])]
theorem path_pd (p : List Int) : isPd (pathD p) = true := by
  simp only [pathD, isPd]
  exact pds_of fun x hx => by obtain ⟨i, _, rfl⟩ := List.mem_map.mp hx; rfl
theorem prP_pd {es : List (List Int × A.D)} (h : ∀ e ∈ es, isPd e.2 = true) : isPds (es.map prP) = true := pds_of fun x hx => by
  obtain ⟨e, he, rfl⟩ := List.mem_map.mp hx
  simp [prP, isPd, isPds, path_pd, h e he]
theorem count_kid {n : Nat} {d c : A.D} (h : Pw (n + 1) d) (hc : c ∈ kidsD d) : countP c ≤ countP d := by
  rw [countP_eq d]
  have pos : ∀ {xs : List A.D}, (∀ x ∈ xs, Pw n x) → ∀ x ∈ xs, countP x ≤ (xs.map countP).sum ∧ 0 ≤ (xs.map countP).sum := by
    intro xs
    induction xs with
    | nil => simp
    | cons y r ih =>
      intro hp x hx
      have hy : 0 ≤ countP y := by have := sub_len (hp y (by simp)); omega
      have hr : 0 ≤ (r.map countP).sum := by
        cases r with
        | nil => simp
        | cons z r' => exact (ih (fun u hu => hp u (by simp [hu])) z (by simp)).2
      simp only [List.map_cons, List.sum_cons]
      rcases List.mem_cons.mp hx with rfl | hx
      · omega
      · have := ih (fun u hu => hp u (by simp [hu])) x hx
        omega
  have := pos (fun x hx => h.kid hx) c hc
  omega
theorem sub_path : ∀ {n : Nat} {d : A.D} (e : List Int × A.D), e ∈ subP n d → e.1.length ≤ n
  | 0, _, e, h => by simp [subP] at h
  | n + 1, d, e, h => by
    rcases List.mem_cons.mp h with rfl | h
    · simp
    · obtain ⟨j, c, p, _, h2, h3⟩ := mem_subK h
      have := sub_path (p, e.2) h2
      rw [h3]
      simp at this ⊢
      omega
def spSub (n : Nat) : ASp := fun ds S Q _ => opt (one1 ds) fun d => Pw n d ∧ isPd d = true ∧ countP d ≤ 1000 ∧ Q (.lst ((subP n d).map prP)) S
def spSubI (n : Nat) : ASp := fun ds S Q _ => opt (one1 ds) fun d => Pw n d ∧ isPd d = true ∧ countP d ≤ 1000 ∧ ∀ o T, S.length ≤ o → (S ++ T)[o]? = some (.lst ((subP n d).map prP)) → Q (.ref o) (S ++ T)
section
variable {P : Program} {w : World} {K : PySem.W.Frag} {cA : Str → Addr} {mg : Str → Option Value} {base : Heap} {f : Addr} {fd : FuncData} {n k : Nat}
theorem d_sub (D : Dfn K mg "subparts" s_sub ["part"] f fd) (T : Bn mg) (hn : n ≤ 100) (cC : Fnc P w K mg base 1 "children" (upSp ⟨K, cA⟩ spKids)) (cSu : Fnc P w K mg base (n + 1) "subparts" (upSp ⟨K, cA⟩ (spSub n))) : Fnc P w K mg base (n + 2) "subparts" (upSp ⟨K, cA⟩ (spSub (n + 1))) := by
  refine Fnc.pure (sp := spSubI (n + 1)) (D.fnc (def_ok (k := n + 1) D.F sc_sub (fun cdv A outer s H E hr => (js_cons (js_set (i := 1) sc_sub.nd rfl (Or.inl rfl) (j_lstM (ja_cons (j_tup (ja_cons (j_tup ja_nil) (ja_cons (jv 0) ja_nil))) ja_nil)))
    (js_cons (js_for (vs := [0, 1, 2, 3, 4, 5]) (gl_tup (m := 2) (gls_cons (gl_name (i := 2) (by decide)) (gls_cons (gl_name (i := 3) (by decide)) gls_nil))) (passes_of rfl) rfl (ji_enum (by rfl) T.enumerate (ja_cons (j_fc cC hr (by omega) rfl (L2N.passAt (L2N.takes_of rfl rfl rfl rfl)) (ja_cons (jv 0) ja_nil)) ja_nil)) (kpg_tup K (n := 2) rfl (pgs_cons (pg_name (i := 2) sc_sub.nd rfl (Or.inr rfl)) (pgs_cons (pg_name (i := 3) sc_sub.nd rfl (Or.inl rfl)) pgs_nil)))
      (js_one (js_expr (j_extend (jv 1) (ja_cons (j_lc (own := [("path", 4), ("below", 5)]) (tt := aYes) (by rfl) sc_sub.nd (gl_tup (m := 2) (gls_cons (gl_name (i := 4) (by decide)) (gls_cons (gl_name (i := 5) (by decide)) gls_nil))) (ji_seq (j_fc cSu hr (by omega) rfl (L2N.passAt (L2N.takes_of rfl rfl rfl rfl)) (ja_cons (jv 3) ja_nil))) (blkOk_by (own := [("path", 4), ("below", 5)]) (N := ["part", "found", "index", "inner", "path", "below"]) (sc := defScope s_sub) (by decide +kernel)) (fun _ _ _ _ _ => (kpg_tup K (n := 2) rfl (pgs_cons (pg_name (i := 4) sc_sub.nd rfl (Or.inl rfl)) (pgs_cons (pg_name (i := 5) sc_sub.nd rfl (Or.inl rfl)) pgs_nil)))) (fun _ _ _ _ _ => jts_nil) (fun _ _ _ _ _ => (j_tup (ja_cons (j_tup (ja_cons (jv 2) (ja_star (jv 4) ja_nil))) (ja_cons (jv 5) ja_nil))))) ja_nil)))))
    (js_one (js_ret (jv 1)))))) ?_ ?_)) ?_
  · intro ds S Q E h
    obtain ⟨a, rfl, _⟩ := opt_one h
    rfl
  · intro ds S Q E h
    obtain ⟨d, rfl, hw, hd, hc, q⟩ := opt_one h
    clear h
    refine seq_by fun N1 hN1 => ?_
    simp_arith
    refine hN1 _ _ (seq_by fun N2 hN2 => ?_)
    clear hN1
    simp_arith
    refine ⟨hw.shp, ?_⟩
    try simp_arith
    have hlen : ∀ j, j ≤ (kidsD d).length → ((([], d) :: subK (subP n) 0 ((kidsD d).take j)).map prP).length ≤ 1000 := by
      intro j hj
      have h1 := sub_len hw
      have h2 : subK (subP n) 0 (kidsD d) = subK (subP n) 0 ((kidsD d).take j) ++ subK (subP n) (0 + ((kidsD d).take j).length) ((kidsD d).drop j) := by rw [← subK_app, List.take_append_drop]
      simp only [subP, h2, List.length_cons, List.length_append] at h1
      simp only [List.length_map, List.length_cons]
      omega
    refine forX_by (fun r ρ S' => ∃ (j : Nat) (a b : Option A.D), r = (enumD (kidsD d)).drop j ∧ j ≤ (kidsD d).length ∧ ρ = [some d, some (.ref S.length), a, b, none, none] ∧ S' = S ++ [.lst ((([], d) :: subK (subP n) 0 ((kidsD d).take j)).map prP)]) ?_ ?_ ⟨0, none, none, rfl, Nat.zero_le _, rfl, by simp [subK, prP, pathD]⟩
    · rintro ρ S1 ⟨j, a, b, hr, hj, rfl, rfl⟩
      have hj' : j = (kidsD d).length := by
        have := congrArg List.length hr
        simp [enumD] at this
        omega
      subst hj'
      refine hN2 _ _ ?_
      simp_arith
      rw [List.take_length]
      exact q S.length _ (Nat.le_refl _) (by simp [subP])
    · rintro x r ρ S1 ⟨j, a, b, hr, hj, rfl, rfl⟩ F hF
      have hj' : j < (kidsD d).length := by
        have := congrArg List.length hr
        simp [enumD] at this
        omega
      have hx : x = .tup [.int j, (kidsD d)[j]] ∧ r = (enumD (kidsD d)).drop (j + 1) := by
        have e : (enumD (kidsD d)).drop j = (.tup [.int j, (kidsD d)[j]] : A.D) :: (enumD (kidsD d)).drop (j + 1) := by
          rw [List.drop_eq_getElem_cons (by simp [enumD]; exact hj')]
          congr 1
          simp [enumD, hj']
        rw [e] at hr
        simpa using hr
      obtain ⟨rfl, rfl⟩ := hx
      have hcm : (kidsD d)[j] ∈ kidsD d := List.getElem_mem hj'
      have hkp := hw.kid hcm
      have hcp := count_kid hw hcm
      have hsl := sub_len hkp
      simp_arith
      refine ⟨hkp, pd_kid hw.shp hd hcm, by omega, ?_⟩
      simp_arith
      refine lcX_map (fun _ => true) (fun x => match x with | .tup [.tup ps, b] => .tup [.tup (.int j :: ps), b] | d => d) (by simp; omega) (fun x hx Y F' hY _ => ?_) ?_
      · obtain ⟨e, he, rfl⟩ := List.mem_map.mp hx
        have hY := hY rfl
        have hpl := sub_path (n := n) e he
        simp only [prP, pathD] at hY ⊢
        simp_arith
        exact ⟨big2 (by simp; omega), hY⟩
      · rw [filter_all]
        have hL := hlen j (by omega)
        have hL1 := hlen (j + 1) (by omega)
        have e1 : lstAt (S ++ [O.lst ((([], d) :: subK (subP n) 0 ((kidsD d).take j)).map prP)]) S.length = some ((([], d) :: subK (subP n) 0 ((kidsD d).take j)).map prP) := lstAt_of (by simp)
        have e2 : ((subP n (kidsD d)[j]).map prP).map (fun x => match x with | .tup [.tup ps, b] => A.D.tup [.tup (.int j :: ps), b] | d => d) = ((subP n (kidsD d)[j]).map fun e => ((j : Int) :: e.1, e.2)).map prP := by
          rw [List.map_map, List.map_map]
          refine List.map_congr_left fun e _ => ?_
          simp [prP, pathD]
        have e3 : (([], d) :: subK (subP n) 0 ((kidsD d).take (j + 1))) = (([], d) :: subK (subP n) 0 ((kidsD d).take j)) ++ (subP n (kidsD d)[j]).map fun e => ((j : Int) :: e.1, e.2) := by
          rw [List.take_add_one, List.getElem?_eq_getElem hj', subK_app]
          simp [subK, List.length_take, Nat.min_eq_left (Nat.le_of_lt hj')]
        rw [e2]
        rw [List.map_cons] at e1
        rw [e1]
        refine ⟨big2 ?_, ?_⟩
        · rw [e3] at hL1
          simp only [List.map_append, List.length_append, List.map_cons] at hL1
          simp only [List.length_map, List.length_cons] at hL1 ⊢
          omega
        · rw [v_set_push]
          refine hF _ _ ⟨j + 1, _, _, rfl, hj', rfl, ?_⟩
          rw [e3, List.map_append, List.map_cons]
  · intro ds S Q E h
    obtain ⟨d, rfl, hw, hd, hc, q⟩ := opt_one h
    exact ⟨hw, hd, hc, fun o T' ho h => ⟨T', _, rfl, frz_new ho h (prP_pd (sub_pd hw hd)), q⟩⟩
end

/-! ### parts at paths (plain) -/
theorem opts_part : ∀ {ns : List Int} {ps : List A.D}, ns.length = ps.length → (optsD ns ps).map optPart = ps
  | [], [], _ => rfl
  | n :: ns, p :: ps, h => by
    have := opts_part (ns := ns) (ps := ps) (by simpa using h)
    simp only [optsD, List.zipWith_cons_cons, List.map_cons, optPart]
    simp only [optsD] at this
    rw [this]
theorem opts_num : ∀ {ns : List Int} {ps : List A.D}, ns.length = ps.length → (optsD ns ps).map optNum = ns
  | [], [], _ => rfl
  | n :: ns, p :: ps, h => by
    have := opts_num (ns := ns) (ps := ps) (by simpa using h)
    simp only [optsD, List.zipWith_cons_cons, List.map_cons, optNum]
    simp only [optsD] at this
    rw [this]
theorem opts_b : ∀ {os cs : List A.D} {last : Int}, os.length = cs.length → optsB last os = true → optsB last (optsD (os.map optNum) cs) = true
  | [], [], _, _, _ => rfl
  | o :: os, c :: cs, last, hl, h => by
    simp only [optsB, Bool.and_eq_true] at h
    have h1 := h.1
    unfold isOptB at h1
    split at h1
    · rename_i n y
      obtain ⟨i, rfl, _⟩ := betw_int h1
      have ih := opts_b (os := os) (cs := cs) (last := i) (by simpa using hl) h.2
      simp only [optsD] at ih
      simp only [List.map_cons, optNum, optsD, List.zipWith_cons_cons, optsB, isOptB, Bool.and_eq_true]
      exact ⟨h1, ih⟩
    · cases h1
/-- a part made of other parts -/
def withK (d : A.D) (cs : List A.D) : A.D :=
  if kdOf d = "row" then .tup [.str "row", .tup cs]
  else if kdOf d = "choice" then .tup [.str "choice", fldOf d 1, .tup (optsD ((itsOf (fldOf d 2)).map optNum) cs)]
  else if kdOf d = "cell" ∨ kdOf d = "need" ∨ kdOf d = "pad" then d
  else .tup ((itsOf d).dropLast ++ [cs.headD .non])
theorem withK_row {ps cs : List A.D} : withK (.tup [.str "row", .tup ps]) cs = .tup [.str "row", .tup cs] := by simp [withK, kdOf]
theorem withK_choice {m : A.D} {os cs : List A.D} : withK (.tup [.str "choice", m, .tup os]) cs = .tup [.str "choice", m, .tup (optsD (os.map optNum) cs)] := by simp [withK, kdOf, fldOf, itsOf, ofString_inj]
theorem withK_cell {a b c : A.D} {cs : List A.D} : withK (.tup [.str "cell", a, b, c]) cs = .tup [.str "cell", a, b, c] := by simp [withK, kdOf, ofString_inj]
theorem withK_need {a : A.D} {cs : List A.D} : withK (.tup [.str "need", a]) cs = .tup [.str "need", a] := by simp [withK, kdOf, ofString_inj]
theorem withK_pad {a b : A.D} {cs : List A.D} : withK (.tup [.str "pad", a, b]) cs = .tup [.str "pad", a, b] := by simp [withK, kdOf, ofString_inj]
theorem withK_times {a p c : A.D} {cs : List A.D} : withK (.tup [.str "times", a, p]) (c :: cs) = .tup [.str "times", a, c] := by simp [withK, kdOf, itsOf, ofString_inj]
theorem withK_counted {a b e p c : A.D} {cs : List A.D} : withK (.tup [.str "counted", a, b, e, p]) (c :: cs) = .tup [.str "counted", a, b, e, c] := by simp [withK, kdOf, itsOf, ofString_inj]
theorem withK_within {a b e g p c : A.D} {cs : List A.D} : withK (.tup [.str "within", a, b, e, g, p]) (c :: cs) = .tup [.str "within", a, b, e, g, c] := by simp [withK, kdOf, itsOf, ofString_inj]
theorem withK_fill {p c : A.D} {cs : List A.D} : withK (.tup [.str "fill", p]) (c :: cs) = .tup [.str "fill", c] := by simp [withK, kdOf, itsOf, ofString_inj]
theorem withK_ifleft {p c : A.D} {cs : List A.D} : withK (.tup [.str "if left", p]) (c :: cs) = .tup [.str "if left", c] := by simp [withK, kdOf, itsOf, ofString_inj]
theorem len1 {α : Type} {cs : List α} {p : α} (h : cs.length = [p].length) : ∃ c, cs = [c] := by
  match cs, h with
  | [c], _ => exact ⟨c, rfl⟩
theorem kids_withK {d : A.D} {cs : List A.D} (h : Shp d) (hl : cs.length = (kidsD d).length) : kidsD (withK d cs) = cs := by
  cases h with
  | cell => rw [kids_cell] at hl; rw [withK_cell, kids_cell]; exact (List.length_eq_zero_iff.mp hl).symm
  | row => rw [withK_row, kids_row]
  | choice hm ho => rw [kids_choice] at hl; rw [withK_choice, kids_choice, opts_part (by simpa using hl.symm)]
  | times => rw [kids_times] at hl; obtain ⟨c, rfl⟩ := len1 hl; rw [withK_times, kids_times]
  | counted => rw [kids_counted] at hl; obtain ⟨c, rfl⟩ := len1 hl; rw [withK_counted, kids_counted]
  | within => rw [kids_within] at hl; obtain ⟨c, rfl⟩ := len1 hl; rw [withK_within, kids_within]
  | fill => rw [kids_fill] at hl; obtain ⟨c, rfl⟩ := len1 hl; rw [withK_fill, kids_fill]
  | ifleft => rw [kids_ifleft] at hl; obtain ⟨c, rfl⟩ := len1 hl; rw [withK_ifleft, kids_ifleft]
  | need => rw [kids_need] at hl; rw [withK_need, kids_need]; exact (List.length_eq_zero_iff.mp hl).symm
  | pad => rw [kids_pad] at hl; rw [withK_pad, kids_pad]; exact (List.length_eq_zero_iff.mp hl).symm
theorem shp_withK {d : A.D} {cs : List A.D} (h : Shp d) (hl : cs.length = (kidsD d).length) : Shp (withK d cs) := by
  cases h with
  | cell h => rw [withK_cell]; exact .cell h
  | row h => rw [kids_row] at hl; rw [withK_row]; exact .row (by omega)
  | choice hm ho =>
    rename_i m os
    rw [kids_choice] at hl
    rw [withK_choice]
    refine .choice hm ?_
    have h1 : cs.length = os.length := by simpa using hl
    simp only [areOpts, Bool.and_eq_true, decide_eq_true_eq] at ho ⊢
    refine ⟨by simp [optsD]; omega, opts_b h1.symm ho.2⟩
  | times h0 h => rw [kids_times] at hl; obtain ⟨c, rfl⟩ := len1 hl; rw [withK_times]; exact .times h0 h
  | counted hm ha hb => rw [kids_counted] at hl; obtain ⟨c, rfl⟩ := len1 hl; rw [withK_counted]; exact .counted hm ha hb
  | within h => rw [kids_within] at hl; obtain ⟨c, rfl⟩ := len1 hl; rw [withK_within]; exact .within h
  | fill => rw [kids_fill] at hl; obtain ⟨c, rfl⟩ := len1 hl; rw [withK_fill]; exact .fill
  | ifleft => rw [kids_ifleft] at hl; obtain ⟨c, rfl⟩ := len1 hl; rw [withK_ifleft]; exact .ifleft
  | need h0 h => rw [withK_need]; exact .need h0 h
  | pad h0 h ha => rw [withK_pad]; exact .pad h0 h ha
theorem pds_opts : ∀ {ns : List Int} {cs : List A.D}, isPds cs = true → isPds (optsD ns cs) = true
  | [], _, _ => by simp [optsD, isPds]
  | _ :: _, [], _ => by simp [optsD, isPds]
  | n :: ns, c :: cs, h => by
    have h' : isPd c = true ∧ isPds cs = true := by simpa [isPds] using h
    have ih := pds_opts (ns := ns) h'.2
    simp only [optsD] at ih
    simp [optsD, isPds, isPd, h'.1, ih]
theorem pd_withK {d : A.D} {cs : List A.D} (h : Shp d) (hl : cs.length = (kidsD d).length) (hd : isPd d = true) (hc : isPds cs = true) : isPd (withK d cs) = true := by
  cases h with
  | cell => rw [withK_cell]; exact hd
  | row => rw [withK_row]; simpa [isPd, isPds] using hc
  | choice => rw [withK_choice]; simp [isPd, isPds] at hd ⊢; exact ⟨hd.1, pds_opts hc⟩
  | times => rw [kids_times] at hl; obtain ⟨c, rfl⟩ := len1 hl; rw [withK_times]; simp [isPd, isPds] at hd hc ⊢; exact hc
  | counted => rw [kids_counted] at hl; obtain ⟨c, rfl⟩ := len1 hl; rw [withK_counted]; simp [isPd, isPds] at hd hc ⊢; exact ⟨hd.1, hd.2.1, hd.2.2.1, hc⟩
  | within => rw [kids_within] at hl; obtain ⟨c, rfl⟩ := len1 hl; rw [withK_within]; simp [isPd, isPds] at hd hc ⊢; exact ⟨hd.1, hd.2.1, hd.2.2.1, hd.2.2.2.1, hc⟩
  | fill => rw [kids_fill] at hl; obtain ⟨c, rfl⟩ := len1 hl; rw [withK_fill]; simp [isPd, isPds] at hc ⊢; exact hc
  | ifleft => rw [kids_ifleft] at hl; obtain ⟨c, rfl⟩ := len1 hl; rw [withK_ifleft]; simp [isPd, isPds] at hc ⊢; exact hc
  | need => rw [withK_need]; exact hd
  | pad => rw [withK_pad]; exact hd
def kidD (d : A.D) (i : Int) : A.D := (kidsD d).getD i.toNat .non
def repP : A.D → List Int → A.D → A.D
  | _, [], o => o
  | d, i :: p, o => withK d ((kidsD d).set i.toNat (repP (kidD d i) p o))
def atP : A.D → List Int → A.D
  | d, [] => d
  | d, i :: p => atP (kidD d i) p
def okP : A.D → List Int → Prop
  | _, [] => True
  | d, i :: p => 0 ≤ i ∧ i < (kidsD d).length ∧ okP (kidD d i) p
theorem kid_get {d : A.D} {i : Int} (h0 : 0 ≤ i) (h : i < (kidsD d).length) : (kidsD d)[i.toNat]? = some (kidD d i) := by
  unfold kidD
  rw [List.getD_eq_getElem?_getD, List.getElem?_eq_getElem (by omega)]
  rfl
theorem kid_mem {d : A.D} {i : Int} (h0 : 0 ≤ i) (h : i < (kidsD d).length) : kidD d i ∈ kidsD d := List.mem_of_getElem? (kid_get h0 h)
theorem kids_pd {d : A.D} (hs : Shp d) (h : isPd d = true) : isPds (kidsD d) = true := pds_of fun x hx => pd_kid hs h hx
theorem pds_set : ∀ {xs : List A.D} {j : Nat} {v : A.D}, isPds xs = true → isPd v = true → isPds (xs.set j v) = true
  | [], _, _, _, _ => rfl
  | x :: xs, 0, v, h, hv => by
    have h' : isPd x = true ∧ isPds xs = true := by simpa [isPds] using h
    simp [isPds, hv, h'.2]
  | x :: xs, j + 1, v, h, hv => by
    have h' : isPd x = true ∧ isPds xs = true := by simpa [isPds] using h
    simp [isPds, h'.1, pds_set h'.2 hv]
theorem pd_repP : ∀ {p : List Int} {d o : A.D} {n : Nat}, Pw n d → okP d p → isPd d = true → isPd o = true → isPd (repP d p o) = true
  | [], _, _, _, _, _, _, ho => ho
  | i :: p, d, o, 0, hw, _, _, _ => by cases hw
  | i :: p, d, o, n + 1, hw, ⟨h0, h1, h2⟩, hd, ho => by
    have hm := kid_mem h0 h1
    exact pd_withK hw.shp (by simp) hd (pds_set (kids_pd hw.shp hd) (pd_repP (hw.kid hm) h2 (pd_kid hw.shp hd hm) ho))
/-- a part with another one that has as many parts: the parts stay in their places -/
theorem pw_repP : ∀ {p : List Int} {d o : A.D} {n : Nat}, Pw n d → okP d p → (∀ m, Pw m (atP d p) → Pw m o) → Pw n (repP d p o)
  | [], _, _, _, hw, _, h => h _ hw
  | i :: p, d, o, 0, hw, _, _ => by cases hw
  | i :: p, d, o, n + 1, hw, ⟨h0, h1, h2⟩, h => by
    have hm := kid_mem h0 h1
    refine .mk (shp_withK hw.shp (by simp)) fun c hc => ?_
    have hc : c ∈ kidsD (withK d ((kidsD d).set i.toNat (repP (kidD d i) p o))) := hc
    rw [kids_withK hw.shp (by simp)] at hc
    rcases List.mem_or_eq_of_mem_set hc with hc | rfl
    · exact hw.kid hc
    · exact pw_repP (hw.kid hm) h2 h
theorem pw_at : ∀ {p : List Int} {d : A.D} {n : Nat}, Pw n d → okP d p → ∃ m, Pw m (atP d p)
  | [], _, _, hw, _ => ⟨_, hw⟩
  | i :: p, d, 0, hw, _ => by cases hw
  | i :: p, d, n + 1, hw, ⟨h0, h1, h2⟩ => by
    have := pw_at (d := kidD d i) (p := p) (hw.kid (kid_mem h0 h1)) h2
    exact this
theorem sub_at : ∀ {n : Nat} {d : A.D} {e : List Int × A.D}, e ∈ subP n d → okP d e.1 ∧ atP d e.1 = e.2
  | 0, _, e, h => by simp [subP] at h
  | n + 1, d, e, h => by
    rcases List.mem_cons.mp h with rfl | h
    · exact ⟨trivial, rfl⟩
    · obtain ⟨j, c, p, h1, h2, h3⟩ := mem_subK h
      have hj := (List.getElem?_eq_some_iff.mp h1).1
      have hk : kidD d (j : Int) = c := by
        unfold kidD
        rw [List.getD_eq_getElem?_getD, Int.toNat_natCast, h1]; rfl
      obtain ⟨g1, g2⟩ := sub_at h2
      rw [h3, Int.zero_add]
      exact ⟨⟨by omega, by omega, by rw [hk]; exact g1⟩, by show atP (kidD d j) p = e.2; rw [hk]; exact g2⟩
theorem subK_mem {F : A.D → List (List Int × A.D)} {e : List Int × A.D} : ∀ {xs : List A.D} {i : Int} {j : Nat} {c : A.D}, xs[j]? = some c → e ∈ F c → ((i + j) :: e.1, e.2) ∈ subK F i xs
  | [], _, _, _, h, _ => by simp at h
  | x :: xs, i, 0, c, h, he => by
    simp at h
    subst h
    simp only [subK, List.mem_append, List.mem_map]
    exact .inl ⟨e, he, by simp⟩
  | x :: xs, i, j + 1, c, h, he => by
    simp only [subK, List.mem_append]
    right
    have := subK_mem (F := F) (i := i + 1) (j := j) (c := c) (e := e) (xs := xs) (by simpa using h) he
    rw [show i + ((j + 1 : Nat) : Int) = i + 1 + (j : Int) by omega]
    exact this
theorem at_sub : ∀ {p : List Int} {n : Nat} {d : A.D}, Pw n d → okP d p → (p, atP d p) ∈ subP n d
  | _, 0, _, hw, _ => by cases hw
  | [], n + 1, d, hw, _ => by simp [subP, atP]
  | i :: p, n + 1, d, hw, ⟨h0, h1, h2⟩ => by
    have := at_sub (hw.kid (kid_mem h0 h1)) h2
    have := subK_mem (F := subP n) (i := 0) (kid_get h0 h1) this
    simp only [subP, List.mem_cons]
    right
    have e : (0 : Int) + (i.toNat : Int) = i := by omega
    rw [e] at this
    exact this
theorem okP_len : ∀ {p : List Int} {n : Nat} {d : A.D}, Pw n d → okP d p → p.length < n
  | _, 0, _, hw, _ => by cases hw
  | [], n + 1, d, hw, _ => by simp
  | i :: p, n + 1, d, hw, ⟨h0, h1, h2⟩ => by
    have := okP_len (hw.kid (kid_mem h0 h1)) h2
    simp
    omega
theorem okP_betw : ∀ {p : List Int} {n : Nat} {d : A.D}, Pw n d → okP d p → ∀ i ∈ p, 0 ≤ i ∧ i ≤ 12
  | _, 0, _, hw, _ => by cases hw
  | [], n + 1, d, hw, _ => by simp
  | i :: p, n + 1, d, hw, ⟨h0, h1, h2⟩ => by
    intro j hj
    rcases List.mem_cons.mp hj with rfl | hj
    · have := kids_len hw.shp
      omega
    · exact okP_betw (hw.kid (kid_mem h0 h1)) h2 j hj
/-- the other part has as many parts -/
theorem at_rep : ∀ {p : List Int} {d o : A.D} {n : Nat}, Pw n d → okP d p → kidsD o = kidsD (atP d p) → ∀ {p' : List Int}, okP d p' →
    okP (repP d p o) p' ∧ (p' = p → atP (repP d p o) p' = o) ∧ (p' ≠ p → ∃ cs, (atP (repP d p o) p' = atP d p' ∨ (cs.length = (kidsD (atP d p')).length ∧ Shp (atP d p') ∧ atP (repP d p o) p' = withK (atP d p') cs)))
  | [], d, o, n, hw, _, hk, p', hp' => by
    refine ⟨?_, fun e => by subst e; rfl, fun hne => ?_⟩
    · show okP o p'
      cases p' with
      | nil => trivial
      | cons i t =>
        have e : kidD o i = kidD d i := by unfold kidD; rw [hk]; rfl
        obtain ⟨h0, h1, h2⟩ := hp'
        exact ⟨h0, by rw [hk]; exact h1, by rw [e]; exact h2⟩
    · cases p' with
      | nil => exact absurd rfl hne
      | cons i t =>
        have e : kidD o i = kidD d i := by unfold kidD; rw [hk]; rfl
        refine ⟨[], .inl ?_⟩
        show atP (kidD o i) t = atP (kidD d i) t
        rw [e]
  | i :: p, d, o, 0, hw, _, _, _, _ => by cases hw
  | i :: p, d, o, n + 1, hw, ⟨h0, h1, h2⟩, hk, p', hp' => by
    have hm := kid_mem h0 h1
    have hkw : kidsD (repP d (i :: p) o) = (kidsD d).set i.toNat (repP (kidD d i) p o) := kids_withK hw.shp (by simp)
    cases p' with
    | nil =>
      refine ⟨trivial, fun e => (by cases e), fun _ => ⟨(kidsD d).set i.toNat (repP (kidD d i) p o), .inr ⟨by simp [atP], hw.shp, rfl⟩⟩⟩
    | cons j t =>
      obtain ⟨g0, g1, g2⟩ := hp'
      by_cases hij : i = j
      · subst hij
        have e : kidD (repP d (i :: p) o) i = repP (kidD d i) p o := by
          show (kidsD (repP d (i :: p) o)).getD i.toNat .non = _
          rw [hkw, List.getD_eq_getElem?_getD, List.getElem?_set_self (by omega)]; rfl
        obtain ⟨k1, k2, k3⟩ := at_rep (hw.kid hm) h2 hk g2
        refine ⟨⟨g0, by rw [hkw]; simpa using g1, by rw [e]; exact k1⟩, fun q => ?_, fun q => ?_⟩
        · show atP (kidD (repP d (i :: p) o) i) t = o
          rw [e]
          exact k2 (by simpa using q)
        · obtain ⟨cs, k4⟩ := k3 (fun z => q (by rw [z]))
          refine ⟨cs, ?_⟩
          show atP (kidD (repP d (i :: p) o) i) t = atP (kidD d i) t ∨ (cs.length = (kidsD (atP (kidD d i) t)).length ∧ Shp (atP (kidD d i) t) ∧ atP (kidD (repP d (i :: p) o) i) t = withK (atP (kidD d i) t) cs)
          rw [e]
          exact k4
      · have e : kidD (repP d (i :: p) o) j = kidD d j := by
          show (kidsD (repP d (i :: p) o)).getD j.toNat .non = _
          rw [hkw, List.getD_eq_getElem?_getD, List.getElem?_set_ne (by omega)]
          unfold kidD
          rw [List.getD_eq_getElem?_getD]
        refine ⟨⟨g0, by rw [hkw]; simpa using g1, by rw [e]; exact g2⟩, fun q => absurd (by cases q; rfl) hij, fun _ => ⟨[], .inl ?_⟩⟩
        show atP (kidD (repP d (i :: p) o) j) t = atP (kidD d j) t
        rw [e]


/-! ### parts at paths, walked -/
abbrev s_childM : Stmt := (topS 36)
theorem sc_childM : FnScope ["part", "number", "inner"] ["part"] (defScope s_childM) := ⟨rfl, rfl, rfl, by decide +kernel, rfl, by decide +kernel, by decide +kernel⟩
abbrev s_wkids : Stmt := (topS 47)
theorem sc_wkids : FnScope ["part", "inner", "option", "other"] ["part", "inner"] (defScope s_wkids) := ⟨rfl, rfl, rfl, by decide +kernel, rfl, by decide +kernel, by decide +kernel⟩
abbrev s_repl : Stmt := (topS 48)
theorem sc_repl : FnScope ["part", "path", "other", "inner"] ["part", "path", "other"] (defScope s_repl) := ⟨rfl, rfl, rfl, by decide +kernel, rfl, by decide +kernel, by decide +kernel⟩
theorem path_dt {p : List Int} : Dt 1 (pathD p) := Dt.tup fun x hx => by
  obtain ⟨i, _, rfl⟩ := List.mem_map.mp hx
  exact .int
theorem path_dat {p : List Int} : dat (pathD p) = true := (path_dt.up (by decide)).dat
theorem cut_from1 {x : A.D} {xs : List A.D} : cutD (x :: xs) (some 1) none = xs := by
  have e : HT.sIx (x :: xs).length 0 (some 1) = 1 := by
    unfold HT.sIx
    simp
    try omega
  unfold cutD
  rw [e]
  simp [HT.sIx]
def spKidsM : ASp := fun ds S Q _ => opt (one1 ds) fun d => Shp d ∧ Q (.ref S.length) (S ++ [.lst (kidsD d)])
def spPartAt (n : Nat) : ASp := fun ds S Q _ => opt (two2 ds) fun e => ∃ d p, e = (d, pathD p) ∧ Pw n d ∧ okP d p ∧ Q (atP d p) S
def spWk : ASp := fun ds S Q _ => opt (two2 ds) fun e => ∃ d m cs, e = (d, .ref m) ∧ Shp d ∧ lstAt S m = some cs ∧ cs.length = (kidsD d).length ∧ Q (withK d cs) S
def spRepl (n : Nat) : ASp := fun ds S Q _ => opt (three3 ds) fun e => ∃ d p o, e = (d, pathD p, o) ∧ Pw n d ∧ isPd d = true ∧ okP d p ∧ isPd o = true ∧ Q (repP d p o) S
def spReplI (n : Nat) : ASp := fun ds S Q _ => opt (three3 ds) fun e => ∃ d p o, e = (d, pathD p, o) ∧ Pw n d ∧ isPd d = true ∧ okP d p ∧ isPd o = true ∧ ∀ S', (∃ T, S' = S ++ T) → Q (repP d p o) S'
section
variable {P : Program} {w : World} {K : PySem.W.Frag} {cA : Str → Addr} {mg : Str → Option Value} {base : Heap} {f : Addr} {fd : FuncData} {n k : Nat}
theorem d_childM (D : Dfn K mg "children" s_childM ["part"] f fd) (T : Bn mg) : Fnc P w K mg base 1 "children" (upSp ⟨K, cA⟩ spKidsM) := by
  refine D.fnc (def_ok (k := 0) D.F sc_childM (fun cdv A outer s H E hr => (js_one (js_match (j_ix (kix_lt K) os_ix (jv 0) j_int (fun _ _ => rfl))
      (jc_cons pp_val (js_one (js_ret (j_callTy (kcall_list_of K) cs_listM (by rfl) T.list (by decide +kernel) (ja_cons (j_ix (kix_lt K) os_ix (jv 0) j_int (fun _ _ => rfl)) ja_nil))))
      (jc_cons pp_val (js_one (js_ret (j_lcM (own := [("number", 1), ("inner", 2)]) (tt := aYes) (by rfl) sc_childM.nd (gl_tup (m := 2) (gls_cons (gl_name (i := 1) (by decide)) (gls_cons (gl_name (i := 2) (by decide)) gls_nil))) (ji_seq (j_ix (kix_lt K) os_ix (jv 0) j_int (fun _ _ => rfl))) (blkOk_by (own := [("number", 1), ("inner", 2)]) (N := ["part", "number", "inner"]) (sc := defScope s_childM) (by decide +kernel)) (fun _ _ _ _ _ => (kpg_tup K (n := 2) rfl (pgs_cons (pg_name (i := 1) sc_childM.nd rfl (Or.inl rfl)) (pgs_cons (pg_name (i := 2) sc_childM.nd rfl (Or.inl rfl)) pgs_nil)))) (fun _ _ _ _ _ => jts_nil) (fun _ _ _ _ _ => (jv 2)))))
      (jc_cons (pp_or (pf_cons pp_val (pf_cons pp_val (pf_cons pp_val pf_nil)))) (js_one (js_ret (j_lstM ja_nil)))
      (jc_any (js_one (js_ret (j_lstM (ja_cons (j_ix (kix_lt K) os_ix (jv 0) (j_neg j_int) (fun _ _ => rfl)) ja_nil))))))))))) ?_ ?_)
  · intro ds S Q E h
    obtain ⟨a, rfl, _⟩ := opt_one h
    rfl
  · intro ds S Q E h
    obtain ⟨d, rfl, hd, q⟩ := opt_one h
    cases hd with
    | cell h => rw [kids_cell] at q; simp_arith; exact q
    | row h => rw [kids_row] at q; simp_arith; exact q
    | choice hm ho =>
      rw [kids_choice] at q
      obtain ⟨h1, h2, h3⟩ := areOpts_mem ho
      simp_arith
      refine lcX_map (fun _ => true) optPart (by omega) (fun x hx Y F hY _ => ?_) (by rw [filter_all]; exact q)
      obtain ⟨i, p, rfl⟩ := h1 x hx
      simp_arith
      exact hY rfl
    | times h0 h => rw [kids_times] at q; simp_arith; exact q
    | counted => rw [kids_counted] at q; simp_arith; exact q
    | within => rw [kids_within] at q; simp_arith; exact q
    | fill => rw [kids_fill] at q; simp_arith; exact q
    | ifleft => rw [kids_ifleft] at q; simp_arith; exact q
    | need => rw [kids_need] at q; simp_arith; exact q
    | pad => rw [kids_pad] at q; simp_arith; exact q
theorem d_partat (D : Dfn K mg "part_at" s_partat ["part", "path"] f fd) (T : Bn mg) (cC : Fnc P w K mg base 1 "children" (upSp ⟨K, cA⟩ spKids)) : Fnc P w K mg base 2 "part_at" (upSp ⟨K, cA⟩ (spPartAt n)) := by
  refine D.fnc (def_ok (k := 1) D.F sc_partat (fun cdv A outer s H E hr => (js_cons (js_for (vs := [0, 1, 2]) (gl_name (i := 2) (by decide)) (passes_of rfl) rfl (ji_seq (jv 1)) (pg_name (i := 2) sc_partat.nd rfl (Or.inl rfl))
      (js_one (js_set (i := 0) sc_partat.nd rfl (Or.inl rfl) (j_ix (kix_lt K) os_ix (j_fc cC hr (by omega) rfl (L2N.passAt (L2N.takes_of rfl rfl rfl rfl)) (ja_cons (jv 0) ja_nil)) (jv 2) (fun _ _ => rfl)))))
    (js_one (js_ret (jv 0))))) ?_ ?_)
  · intro ds S Q E h
    obtain ⟨a, b, rfl, _⟩ := opt_two h
    rfl
  · intro ds S Q E h
    obtain ⟨d, x2, rfl, d', p, eq, hw, hp, q⟩ := opt_two h
    clear h
    cases eq
    refine seq_by fun N1 hN1 => ?_
    simp_arith [pathD]
    refine forX_by (fun r ρ S' => ∃ (t : List Int) (m : Nat) (e : A.D) (x : Option A.D), r = t.map A.D.int ∧ S' = S ∧ Pw m e ∧ okP e t ∧ ρ = [some e, some (.tup (p.map A.D.int)), x] ∧ Q (atP e t) S) ?_ ?_ ⟨p, n, d, _, rfl, rfl, hw, hp, rfl, q⟩
    · rintro ρ S1 ⟨t, m, e, x, ht, rfl, he, hp, rfl, q⟩
      have ht : t = [] := by simpa using ht.symm
      subst ht
      refine hN1 _ _ ?_
      simp_arith
      exact q
    · rintro y r ρ S1 ⟨t, m, e, x, ht, rfl, he, hp, rfl, q⟩ F hF
      cases t with
      | nil => simp at ht
      | cons i t =>
        simp only [List.map_cons, List.cons.injEq] at ht
        obtain ⟨rfl, rfl⟩ := ht
        obtain ⟨h0, h1, h2⟩ := hp
        cases he with
        | mk hs hk =>
          have e1 : atI (kidsD e) i = some (kidD e i) := by
            have := atD (kid_get h0 h1)
            rwa [show ((i.toNat : Nat) : Int) = i by omega] at this
          simp_arith [spKids]
          refine ⟨hs, ?_⟩
          simp_arith [e1]
          exact hF _ _ ⟨t, _, _, _, rfl, rfl, hk _ (kid_mem h0 h1), h2, rfl, q⟩
theorem zip_opts {os cs : List A.D} (h1 : ∀ o ∈ os, ∃ i p, o = A.D.tup [.int i, p]) : (zipD os cs).map (fun x => match x with | .tup [.tup (a :: _), b] => A.D.tup [a, b] | d => d) = optsD (os.map optNum) cs := by
  apply List.ext_getElem?
  intro j
  by_cases hj : j < min os.length cs.length
  · have ho : j < os.length := by omega
    have hc : j < cs.length := by omega
    obtain ⟨i, p, e⟩ := h1 os[j] (List.getElem_mem ho)
    simp [zipD, optsD, hj, ho, hc, List.getD, e, optNum]
  · rw [List.getElem?_eq_none (by simp [zipD]; omega), List.getElem?_eq_none (by simp [optsD]; omega)]
theorem d_wkids (D : Dfn K mg "with_children" s_wkids ["part", "inner"] f fd) (T : Bn mg) : Fnc P w K mg base 1 "with_children" (upSp ⟨K, cA⟩ spWk) := by
  refine D.fnc (def_ok (k := 0) D.F sc_wkids (fun cdv A outer s H E hr => (js_one (js_match (j_ix (kix_lt K) os_ix (jv 0) j_int (fun _ _ => rfl))
      (jc_cons pp_val (js_one (js_ret (j_tup (ja_cons j_str (ja_cons (j_callTy (kcall_tuple_of K) cs_tuple (by rfl) T.tuple (by decide +kernel) (ja_cons (jv 1) ja_nil)) ja_nil)))))
      (jc_cons pp_val (js_one (js_ret (j_tup (ja_cons j_str (ja_cons (j_ix (kix_lt K) os_ix (jv 0) j_int (fun _ _ => rfl)) (ja_cons (j_callTy (kcall_tuple_of K) cs_tuple (by rfl) T.tuple (by decide +kernel) (ja_cons (j_lcZ (own := [("option", 2), ("other", 3)]) (tt := aYes) (by rfl) sc_wkids.nd (gl_tup (m := 2) (gls_cons (gl_name (i := 2) (by decide)) (gls_cons (gl_name (i := 3) (by decide)) gls_nil))) (by rfl) T.zip (ja_cons (j_ix (kix_lt K) os_ix (jv 0) j_int (fun _ _ => rfl)) (ja_cons (jv 1) ja_nil)) (blkOk_by (own := [("option", 2), ("other", 3)]) (N := ["part", "inner", "option", "other"]) (sc := defScope s_wkids) (by decide +kernel)) (fun _ _ _ _ _ => (kpg_tup K (n := 2) rfl (pgs_cons (pg_name (i := 2) sc_wkids.nd rfl (Or.inl rfl)) (pgs_cons (pg_name (i := 3) sc_wkids.nd rfl (Or.inl rfl)) pgs_nil)))) (fun _ _ _ _ _ => jts_nil) (fun _ _ _ _ _ => (j_tup (ja_cons (j_ix (kix_lt K) os_ix (jv 2) j_int (fun _ _ => rfl)) (ja_cons (jv 3) ja_nil))))) ja_nil)) ja_nil))))))
      (jc_cons (pp_or (pf_cons pp_val (pf_cons pp_val (pf_cons pp_val pf_nil)))) (js_one (js_ret (jv 0)))
      (jc_any (js_one (js_ret (j_tup (ja_star (j_sl (jv 0) jo_none (jo_some (j_neg j_int))) (ja_cons (j_ix (kix_lt K) os_ix (jv 1) j_int (fun _ _ => rfl)) ja_nil)))))))))))) ?_ ?_)
  · intro ds S Q E h
    obtain ⟨a, b, rfl, _⟩ := opt_two h
    rfl
  · intro ds S Q E h
    obtain ⟨d, x2, rfl, d', m, cs, eq, hs, hm, hl, q⟩ := opt_two h
    clear h
    cases eq
    cases hs with
    | cell => rw [withK_cell] at q; simp_arith; exact q
    | row => rw [withK_row] at q; simp_arith [hm]; exact q
    | choice hk ho =>
      rename_i mm os
      rw [withK_choice] at q
      rw [kids_choice] at hl
      obtain ⟨h1, h2, h3⟩ := areOpts_mem ho
      simp_arith [hm, aLcZ]
      refine ⟨by simpa using hl.symm, ?_⟩
      refine lcI_map (fun _ => true) (fun x => match x with | .tup [.tup (a :: _), b] => A.D.tup [a, b] | d => d) hm (by simp [zipD]; omega) (fun x hx Y F hY _ => ?_) ?_
      · obtain ⟨j, hj, rfl⟩ := List.mem_map.mp hx
        have hj := List.mem_range.mp hj
        have ho : j < os.length := by omega
        obtain ⟨i, p, e⟩ := h1 _ (List.getElem_mem ho)
        have e1 : os.getD j A.D.non = A.D.tup [.int i, p] := by rw [List.getD_eq_getElem?_getD, List.getElem?_eq_getElem ho]; exact e
        have hY := hY rfl
        simp only [e1] at hY ⊢
        simp_arith
        exact hY
      · rw [filter_all, zip_opts h1]
        try simp_arith
        exact q
    | times => rw [kids_times] at hl; obtain ⟨c, rfl⟩ := len1 hl; rw [withK_times] at q; simp_arith [hm, cm3]; exact q
    | counted => rw [kids_counted] at hl; obtain ⟨c, rfl⟩ := len1 hl; rw [withK_counted] at q; simp_arith [hm, cm5]; exact q
    | within => rw [kids_within] at hl; obtain ⟨c, rfl⟩ := len1 hl; rw [withK_within] at q; simp_arith [hm, cm6]; exact q
    | fill => rw [kids_fill] at hl; obtain ⟨c, rfl⟩ := len1 hl; rw [withK_fill] at q; simp_arith [hm, cm2]; exact q
    | ifleft => rw [kids_ifleft] at hl; obtain ⟨c, rfl⟩ := len1 hl; rw [withK_ifleft] at q; simp_arith [hm, cm2]; exact q
    | need => rw [withK_need] at q; simp_arith; exact q
    | pad => rw [withK_pad] at q; simp_arith; exact q
theorem d_repl (D : Dfn K mg "replaced" s_repl ["part", "path", "other"] f fd) (T : Bn mg) (cCM : Fnc P w K mg base 1 "children" (upSp ⟨K, cA⟩ spKidsM)) (cWk : Fnc P w K mg base 1 "with_children" (upSp ⟨K, cA⟩ spWk)) (cRp : Fnc P w K mg base (n + 1) "replaced" (upSp ⟨K, cA⟩ (spRepl n))) : Fnc P w K mg base (n + 2) "replaced" (upSp ⟨K, cA⟩ (spRepl (n + 1))) := by
  refine Fnc.pure (sp := spReplI (n + 1)) (D.fnc (def_ok (k := n + 1) D.F sc_repl (fun cdv A outer s H E hr => (js_cons (js_if (jt_cmp (op_eqA K hr.units) os_eq (jv 1) (j_tup ja_nil) (nomark _))
      (js_one (js_ret (jv 2)))
      js_nil)
    (js_cons (js_set (i := 3) sc_repl.nd rfl (Or.inl rfl) (j_fc cCM hr (by omega) rfl (L2N.passAt (L2N.takes_of rfl rfl rfl rfl)) (ja_cons (jv 0) ja_nil)))
    (js_cons (js_putL (jv 3) (j_ix (kix_lt K) os_ix (jv 1) j_int (fun _ _ => rfl)) (j_fc cRp hr (by omega) rfl (L2N.passAt (L2N.takes_of rfl rfl rfl rfl)) (ja_cons (j_ix (kix_lt K) os_ix (jv 3) (j_ix (kix_lt K) os_ix (jv 1) j_int (fun _ _ => rfl)) (fun _ _ => rfl)) (ja_cons (j_sl (jv 1) (jo_some j_int) jo_none) (ja_cons (jv 2) ja_nil)))))
    (js_one (js_ret (j_fc cWk hr (by omega) rfl (L2N.passAt (L2N.takes_of rfl rfl rfl rfl)) (ja_cons (jv 0) (ja_cons (jv 3) ja_nil))))))))) ?_ ?_)) ?_
  · intro ds S Q E h
    obtain ⟨a, b, c, rfl, _⟩ := opt_three h
    rfl
  · intro ds S Q E h
    obtain ⟨d, x2, o, rfl, d', p, o', eq, hw, hd, hp, ho, q⟩ := opt_three h
    clear h
    cases eq
    have dp := path_dat (p := p)
    refine seq_by fun N1 hN1 => ?_
    simp_arith [pathD]
    unfold pathD at dp
    simp_arith [dp, eqv_nil, show dat (.tup []) = true from by decide +kernel]
    cases p with
    | nil =>
      simp_arith
      exact q _ ⟨[], by simp⟩
    | cons i t =>
      simp_arith
      refine hN1 _ _ ?_
      clear hN1
      obtain ⟨h0, h1, h2⟩ := hp
      have e1 : atI (kidsD d) i = some (kidD d i) := by
        have := atD (kid_get h0 h1)
        rwa [show ((i.toNat : Nat) : Int) = i by omega] at this
      refine seq_by fun N2 hN2 => ?_
      simp_arith [spKidsM]
      refine ⟨hw.shp, hN2 _ _ (seq_by fun N3 hN3 => ?_)⟩
      clear hN2
      have hl : lstAt (S ++ [O.lst (kidsD d)]) S.length = some (kidsD d) := lstAt_of (by simp)
      have i1 : ixN (kidsD d).length i = some i.toNat := by unfold ixN; rw [if_pos h0, if_pos h1]
      simp_arith [hl, e1, cut_from1, spRepl]
      refine ⟨_, t, o, rfl, hw.kid (kid_mem h0 h1), pd_kid hw.shp hd (kid_mem h0 h1), h2, ho, ?_⟩
      simp_arith [hl, i1]
      refine hN3 _ _ ?_
      clear hN3
      have hl2 : lstAt (S ++ [O.lst ((kidsD d).set i.toNat (repP (kidD d i) t o))]) S.length = some ((kidsD d).set i.toNat (repP (kidD d i) t o)) := lstAt_of (by simp)
      simp_arith [spWk]
      exact ⟨d, S.length, _, rfl, hw.shp, hl2, by simp, q _ ⟨_, rfl⟩⟩
  · intro ds S Q E h
    obtain ⟨d, x2, o, rfl, d', p, o', eq, hw, hd, hp, ho, q⟩ := opt_three h
    cases eq
    refine ⟨d, p, o, rfl, hw, hd, hp, ho, fun S' ⟨T', e⟩ => ⟨T', _, e, ?_, q⟩⟩
    have h1 := pd_repP hw hp hd ho
    generalize repP d p o = r at h1 ⊢
    cases r <;> first
      | (simp [isPd] at h1; done)
      | (simp only [frz]; rw [if_pos (cl_pd h1)])
end


/-! ### the checks of a part -/
abbrev s_howix : Stmt := (topS 55)
theorem sc_howix : FnScope ["part"] ["part"] (defScope s_howix) := ⟨rfl, rfl, rfl, by decide +kernel, rfl, by decide +kernel, by decide +kernel⟩
def hiO (k : Str) : Option Int := if k = "cell" then some 3 else if k = "choice" then some 1 else if k = "counted" then some 1 else if k = "within" then some 1 else if k = "pad" then some 2 else none
def spHi : ASp := fun ds S Q _ => opt (one1 ds) fun d => Shp d ∧ Q (oI (hiO (kdOf d))) S
def spHiI : ASp := fun ds S Q _ => opt (one1 ds) fun d => Shp d ∧ ∀ T, Q (oI (hiO (kdOf d))) (S ++ T)
theorem get_push (S : Sto) (o : O) : (S ++ [o])[S.length]? = some o := by simp
section
variable {P : Program} {w : World} {K : PySem.W.Frag} {cA : Str → Addr} {mg : Str → Option Value} {base : Heap} {f : Addr} {fd : FuncData} {n k : Nat}
theorem d_howix (D : Dfn K mg "how_index" s_howix ["part"] f fd) (T : Bn mg) : Fnc P w K mg base 1 "how_index" (upSp ⟨K, cA⟩ spHi) := by
  refine Fnc.pure (sp := spHiI) (D.fnc (def_ok (k := 0) D.F sc_howix (fun cdv A outer s H E hr => (js_one (js_ret (j_dgetM (u1 hr) (j_disp (.cons j_int (.cons j_int (.cons j_int (.cons j_int (.cons j_int .nil))))) rfl rfl (List.cons_ne_nil _ _) (Nat.le_of_ble_eq_true rfl)) (j_ix (kix_lt K) os_ix (jv 0) j_int (fun _ _ => rfl)) ⟨rfl, rfl, rfl, rfl⟩)))) ?_ ?_)) ?_
  · intro ds S Q E h
    obtain ⟨a, rfl, _⟩ := opt_one h
    rfl
  · intro ds S Q E h
    obtain ⟨d, rfl, hs, q⟩ := opt_one h
    clear h
    cases hs <;> (simp_arith [aDGetM, refOf, dctAt, putS, List.lookup, ofString_beq, ofString_inj, List.foldl, get_push, Option.getD_none, Option.getD_some]) <;> (have q := q [O.dct [(("cell" : Str), A.D.int 3), ("choice", A.D.int 1), ("counted", A.D.int 1), ("within", A.D.int 1), ("pad", A.D.int 2)]]; simp only [hiO, kdOf, ofString_inj, String.reduceEq, if_true, if_false, oI] at q; exact q)
  · intro ds S Q E h
    obtain ⟨d, rfl, hs, q⟩ := opt_one h
    refine ⟨hs, fun T' => ⟨T', _, rfl, ?_, q⟩⟩
    cases hiO (kdOf d) <;> simp [oI, frz, cl]
end

/-! ### the checks of a part -/
abbrev s_wfield : Stmt := (topS 56)
theorem sc_wfield : FnScope ["part", "index", "value"] ["part", "index", "value"] (defScope s_wfield) := ⟨rfl, rfl, rfl, by decide +kernel, rfl, by decide +kernel, by decide +kernel⟩
abbrev s_ownw : Stmt := (topS 57)
theorem sc_ownw : FnScope ["part", "found", "index"] ["part"] (defScope s_ownw) := ⟨rfl, rfl, rfl, by decide +kernel, rfl, by decide +kernel, by decide +kernel⟩
def ownL (i : Nat) (d : A.D) : List Str := if isS "checked" (fldOf d i) = true then ["look"] else []
def aheadW (d : A.D) : List Str := match d with
  | .non => []
  | _ => ["ahead"]
/-- the words of the checks that a part makes itself -/
def ownW (d : A.D) : List Str :=
  if kdOf d = "cell" then ownL 3 d else if kdOf d = "choice" then ownL 1 d else if kdOf d = "counted" then ownL 1 d ++ aheadW (fldOf d 3) else if kdOf d = "within" then ownL 1 d else if kdOf d = "pad" then ownL 2 d else if kdOf d = "need" then ["need"] else []
def strsD (ss : List Str) : A.D := .lst (ss.map A.D.str)
def setF (d : A.D) (i : Nat) (v : A.D) : A.D := .tup ((itsOf d).set i v)
def emptyD : A.D := .tup [.str "row", .tup []]
def woW (d : A.D) (x : Str) : A.D := if x = "need" then emptyD else if x = "ahead" then setF d 3 .non else setF d ((hiO (kdOf d)).getD 0).toNat (.str "bare")
theorem how_str {a : A.D} (h : isOneOf hows a = true) : a = .str "checked" ∨ a = .str "bare" := by
  cases a <;> simp [isOneOf] at h
  rename_i x
  simp [hows] at h
  rcases h with rfl | rfl
  · exact .inl rfl
  · exact .inr rfl
theorem cell_parts {a b c : A.D} (h : isCellB a b c = true) : (∃ i, a = .int i ∧ 0 ≤ i ∧ i ≤ 1000000) ∧ (b = .non ∨ ∃ j, b = .int j) ∧ isOneOf hows c = true := by
  simp only [isCellB, Bool.and_eq_true] at h
  obtain ⟨⟨h1, h2⟩, h3⟩ := h
  obtain ⟨i, rfl, h4, h5⟩ := betw_int h1
  refine ⟨⟨i, rfl, h4, h5⟩, ?_, h2⟩
  cases b <;> first
    | exact .inl rfl
    | (obtain ⟨j, e, _⟩ := betw_int h3; exact .inr ⟨j, e⟩)
theorem most_parts {g : Int} {a : A.D} (h : isMost g a = true) : a = .non ∨ ∃ i, a = .int i ∧ 0 ≤ i ∧ i ≤ g := by
  cases a <;> first
    | exact .inl rfl
    | (simp [isMost, isBetw] at h; done)
    | (simp [isMost, isBetw] at h; exact .inr ⟨_, rfl, h⟩)
theorem limit_parts {m a l r : A.D} (h : isLimitB m a l r = true) : isOneOf hows m = true ∧ isMost 20 a = true ∧ isOneOf limits l = true ∧ isOneOf rests r = true := by
  simpa [isLimitB] using h
def spWf : ASp := fun ds S Q _ => opt (three3 ds) fun e => ∃ xs i v, e = (.tup xs, .int i, v) ∧ 0 ≤ i ∧ i < xs.length ∧ xs.length ≤ 1000 ∧ Q (.tup (xs.set i.toNat v)) S
def spOwn : ASp := fun ds S Q _ => opt (one1 ds) fun d => Shp d ∧ Q (strsD (ownW d)) S
def spOwnI : ASp := fun ds S Q _ => opt (one1 ds) fun d => Shp d ∧ ∀ o T, S.length ≤ o → (S ++ T)[o]? = some (.lst ((ownW d).map A.D.str)) → Q (.ref o) (S ++ T)
theorem cut_to {xs : List A.D} {i : Int} (h0 : 0 ≤ i) : cutD xs none (some i) = xs.take i.toNat := by
  obtain ⟨n, rfl⟩ : ∃ n : Nat, i = n := ⟨i.toNat, by omega⟩
  unfold cutD
  rw [HT.sIx_nat, HT.sIx_none, List.drop_zero, Nat.sub_zero, Int.toNat_natCast]
  by_cases z : n ≤ xs.length
  · rw [Nat.min_eq_left z]
  · rw [Nat.min_eq_right (by omega), List.take_length, List.take_of_length_le (by omega)]
theorem cut_from {xs : List A.D} {i : Int} (h0 : 0 ≤ i) : cutD xs (some i) none = xs.drop i.toNat := by
  obtain ⟨n, rfl⟩ : ∃ n : Nat, i = n := ⟨i.toNat, by omega⟩
  unfold cutD
  rw [HT.sIx_nat, HT.sIx_none, Int.toNat_natCast]
  by_cases z : n ≤ xs.length
  · rw [Nat.min_eq_left z, List.take_of_length_le (by simp)]
  · rw [Nat.min_eq_right (by omega), List.drop_length, List.drop_eq_nil_of_le (by omega)]; simp
section
variable {P : Program} {w : World} {K : PySem.W.Frag} {cA : Str → Addr} {mg : Str → Option Value} {base : Heap} {f : Addr} {fd : FuncData} {n k : Nat}
theorem d_wfield (D : Dfn K mg "with_field" s_wfield ["part", "index", "value"] f fd) (T : Bn mg) : Fnc P w K mg base 1 "with_field" (upSp ⟨K, cA⟩ spWf) := by
  refine D.fnc (def_ok (k := 0) D.F sc_wfield (fun cdv A outer s H E hr => (js_one (js_ret (j_tup (ja_star (j_sl (jv 0) jo_none (jo_some (jv 1))) (ja_cons (jv 2) (ja_star (j_sl (jv 0) (jo_some (j_op (op_addA K) os_add (jv 1) j_int)) jo_none) ja_nil))))))) ?_ ?_)
  · intro ds S Q E h
    obtain ⟨a, b, c, rfl, _⟩ := opt_three h
    rfl
  · intro ds S Q E h
    obtain ⟨x1, x2, v, rfl, xs, i, v', eq, h0, h1, hl, q⟩ := opt_three h
    clear h
    cases eq
    simp_arith
    have e : xs.take i.toNat ++ v :: xs.drop (i + 1).toNat = xs.set i.toNat v := by
      rw [List.set_eq_take_append_cons_drop, if_pos (by omega), show (i + 1).toNat = i.toNat + 1 by omega]
    rw [cut_to h0, cut_from (by omega), e]
    exact ⟨big2 (by simp; omega), q⟩
theorem d_ownw (D : Dfn K mg "own_words" s_ownw ["part"] f fd) (T : Bn mg) (cHi : Fnc P w K mg base 1 "how_index" (upSp ⟨K, cA⟩ spHi)) : Fnc P w K mg base 2 "own_words" (upSp ⟨K, cA⟩ spOwn) := by
  refine Fnc.pure (sp := spOwnI) (D.fnc (def_ok (k := 1) D.F sc_ownw (fun cdv A outer s H E hr => (js_cons (js_set (i := 1) sc_ownw.nd rfl (Or.inl rfl) (j_lstM ja_nil))
    (js_cons (js_set (i := 2) sc_ownw.nd rfl (Or.inl rfl) (j_fc cHi hr (by omega) rfl (L2N.passAt (L2N.takes_of rfl rfl rfl rfl)) (ja_cons (jv 0) ja_nil)))
    (js_cons (js_if (JW.jt (jw_and (jt_cmp op_notN os_isnt (jv 2) j_non (nomark _)) (jw_and1 (jt_cmp (op_eqA K hr.units) os_eq (j_ix (kix_lt K) os_ix (jv 0) (jv 2) (fun _ _ => rfl)) j_str (nomark _)))))
      (js_one (js_expr (j_append (jv 1) (ja_cons j_str ja_nil))))
      js_nil)
    (js_cons (js_if (JW.jt (jw_and (jt_cmp (op_eqA K hr.units) os_eq (j_ix (kix_lt K) os_ix (jv 0) j_int (fun _ _ => rfl)) j_str (nomark _)) (jw_and1 (jt_cmp op_notN os_isnt (j_ix (kix_lt K) os_ix (jv 0) j_int (fun _ _ => rfl)) j_non (nomark _)))))
      (js_one (js_expr (j_append (jv 1) (ja_cons j_str ja_nil))))
      js_nil)
    (js_cons (js_if (jt_cmp (op_eqA K hr.units) os_eq (j_ix (kix_lt K) os_ix (jv 0) j_int (fun _ _ => rfl)) j_str (nomark _))
      (js_one (js_expr (j_append (jv 1) (ja_cons j_str ja_nil))))
      js_nil)
    (js_one (js_ret (jv 1))))))))) ?_ ?_)) ?_
  · intro ds S Q E h
    obtain ⟨a, rfl, _⟩ := opt_one h
    rfl
  · intro ds S Q E h
    obtain ⟨d, rfl, hs, q⟩ := opt_one h
    clear h
    have q0 := fun xs (e : ownW d = xs) => q S.length [.lst (xs.map A.D.str)] (Nat.le_refl _) (by rw [e]; simp)
    clear q
    have fin : ∀ {N : EndsA} (xs : List Str), True := fun _ => trivial
    refine seq_by fun N1 hN1 => ?_
    simp_arith
    refine hN1 _ _ (seq_by fun N2 hN2 => ?_)
    clear hN1
    simp_arith [spHi]
    refine ⟨hs, hN2 _ _ (seq_by fun N3 hN3 => ?_)⟩
    clear hN2
    cases hs with
    | cell h =>
      obtain ⟨_, _, h⟩ := cell_parts h
      rcases how_str h with rfl | rfl
      · simp_arith [hiO, kdOf, oI, v_l0, v_l1]
        refine hN3 _ _ ?_
        simp_arith [v_l0, v_l1]
        exact q0 ["look"] (by simp [ownW, ownL, kdOf, fldOf, itsOf, isS])
      · simp_arith [hiO, kdOf, oI, v_l0, v_l1]
        refine hN3 _ _ ?_
        simp_arith [v_l0, v_l1]
        exact q0 [] (by simp [ownW, ownL, kdOf, fldOf, itsOf, isS, ofString_inj])
    | row =>
      simp_arith [hiO, kdOf, oI, v_l0, v_l1]
      refine hN3 _ _ ?_
      simp_arith [v_l0, v_l1]
      exact q0 [] (by simp [ownW, kdOf, ofString_inj])
    | choice h =>
      rcases how_str h with rfl | rfl
      · simp_arith [hiO, kdOf, oI, v_l0, v_l1]
        refine hN3 _ _ ?_
        simp_arith [v_l0, v_l1]
        exact q0 ["look"] (by simp [ownW, ownL, kdOf, fldOf, itsOf, isS, ofString_inj])
      · simp_arith [hiO, kdOf, oI, v_l0, v_l1]
        refine hN3 _ _ ?_
        simp_arith [v_l0, v_l1]
        exact q0 [] (by simp [ownW, ownL, kdOf, fldOf, itsOf, isS, ofString_inj])
    | times =>
      simp_arith [hiO, kdOf, oI, v_l0, v_l1]
      refine hN3 _ _ ?_
      simp_arith [v_l0, v_l1]
      exact q0 [] (by simp [ownW, kdOf, ofString_inj])
    | counted h ha hb =>
      rcases how_str h with rfl | rfl
      · simp_arith [hiO, kdOf, oI, v_l0, v_l1]
        refine hN3 _ _ ?_
        rcases most_parts hb with rfl | ⟨i, rfl, _⟩
        · simp_arith [v_l0, v_l1]
          exact q0 ["look"] (by simp [ownW, ownL, aheadW, kdOf, fldOf, itsOf, isS, ofString_inj])
        · simp_arith [v_l0, v_l1]
          exact q0 ["look", "ahead"] (by simp [ownW, ownL, aheadW, kdOf, fldOf, itsOf, isS, ofString_inj])
      · simp_arith [hiO, kdOf, oI, v_l0, v_l1]
        refine hN3 _ _ ?_
        rcases most_parts hb with rfl | ⟨i, rfl, _⟩
        · simp_arith [v_l0, v_l1]
          exact q0 [] (by simp [ownW, ownL, aheadW, kdOf, fldOf, itsOf, isS, ofString_inj])
        · simp_arith [v_l0, v_l1]
          exact q0 ["ahead"] (by simp [ownW, ownL, aheadW, kdOf, fldOf, itsOf, isS, ofString_inj])
    | within h =>
      rcases how_str (limit_parts h).1 with rfl | rfl
      · simp_arith [hiO, kdOf, oI, v_l0, v_l1]
        refine hN3 _ _ ?_
        simp_arith [v_l0, v_l1]
        exact q0 ["look"] (by simp [ownW, ownL, kdOf, fldOf, itsOf, isS, ofString_inj])
      · simp_arith [hiO, kdOf, oI, v_l0, v_l1]
        refine hN3 _ _ ?_
        simp_arith [v_l0, v_l1]
        exact q0 [] (by simp [ownW, ownL, kdOf, fldOf, itsOf, isS, ofString_inj])
    | fill =>
      simp_arith [hiO, kdOf, oI, v_l0, v_l1]
      refine hN3 _ _ ?_
      simp_arith [v_l0, v_l1]
      exact q0 [] (by simp [ownW, kdOf, ofString_inj])
    | ifleft =>
      simp_arith [hiO, kdOf, oI, v_l0, v_l1]
      refine hN3 _ _ ?_
      simp_arith [v_l0, v_l1]
      exact q0 [] (by simp [ownW, kdOf, ofString_inj])
    | need =>
      simp_arith [hiO, kdOf, oI, v_l0, v_l1]
      refine hN3 _ _ ?_
      simp_arith [v_l0, v_l1]
      exact q0 ["need"] (by simp [ownW, kdOf, ofString_inj])
    | pad h0 h1 h =>
      rcases how_str h with rfl | rfl
      · simp_arith [hiO, kdOf, oI, v_l0, v_l1]
        refine hN3 _ _ ?_
        simp_arith [v_l0, v_l1]
        exact q0 ["look"] (by simp [ownW, ownL, kdOf, fldOf, itsOf, isS, ofString_inj])
      · simp_arith [hiO, kdOf, oI, v_l0, v_l1]
        refine hN3 _ _ ?_
        simp_arith [v_l0, v_l1]
        exact q0 [] (by simp [ownW, ownL, kdOf, fldOf, itsOf, isS, ofString_inj])
  · intro ds S Q E h
    obtain ⟨d, rfl, hs, q⟩ := opt_one h
    refine ⟨hs, fun o T' ho h => ⟨T', _, rfl, frz_new ho h (pds_of fun x hx => ?_), q⟩⟩
    obtain ⟨y, _, rfl⟩ := List.mem_map.mp hx
    rfl
end


/-! ### fewer checks -/
/-- a look as it was, or bare -/
def wkr (a b : Str) : Prop := b = a ∨ (a = "checked" ∧ b = "bare")
mutual
/-- the second part has some of the checks of the first alone -/
inductive Fw : A.D → A.D → Prop
  | cell {lo hi : A.D} {a b : Str} (h : wkr a b) : Fw (.tup [.str "cell", lo, hi, .str a]) (.tup [.str "cell", lo, hi, .str b])
  | row {ps qs : List A.D} (h : FwL ps qs) : Fw (.tup [.str "row", .tup ps]) (.tup [.str "row", .tup qs])
  | choice {a b : Str} {ns : List Int} {ps qs : List A.D} (h : wkr a b) (hl : ns.length = ps.length) (hk : FwL ps qs) : Fw (.tup [.str "choice", .str a, .tup (optsD ns ps)]) (.tup [.str "choice", .str b, .tup (optsD ns qs)])
  | times {m : Int} {p q : A.D} (h : Fw p q) : Fw (.tup [.str "times", .int m, p]) (.tup [.str "times", .int m, q])
  | counted {a b : Str} {most ah bh p q : A.D} (h : wkr a b) (ha : bh = ah ∨ bh = .non) (hk : Fw p q) : Fw (.tup [.str "counted", .str a, most, ah, p]) (.tup [.str "counted", .str b, most, bh, q])
  | within {a b : Str} {most lim rest p q : A.D} (h : wkr a b) (hk : Fw p q) : Fw (.tup [.str "within", .str a, most, lim, rest, p]) (.tup [.str "within", .str b, most, lim, rest, q])
  | fill {p q : A.D} (h : Fw p q) : Fw (.tup [.str "fill", p]) (.tup [.str "fill", q])
  | ifleft {p q : A.D} (h : Fw p q) : Fw (.tup [.str "if left", p]) (.tup [.str "if left", q])
  | need {k : Int} : Fw (.tup [.str "need", .int k]) (.tup [.str "need", .int k])
  | gone {k : Int} : Fw (.tup [.str "need", .int k]) (.tup [.str "row", .tup []])
  | pad {m : Int} {a b : Str} (h : wkr a b) : Fw (.tup [.str "pad", .int m, .str a]) (.tup [.str "pad", .int m, .str b])
inductive FwL : List A.D → List A.D → Prop
  | nil : FwL [] []
  | cons {p q : A.D} {ps qs : List A.D} (h : Fw p q) (hs : FwL ps qs) : FwL (p :: ps) (q :: qs)
end
theorem FwL.len : ∀ {ps qs : List A.D}, FwL ps qs → ps.length = qs.length
  | _, _, .nil => rfl
  | _, _, .cons _ hs => by simp [hs.len]
mutual
theorem Fw.sz : ∀ {p q : A.D}, Fw p q → sizeP q = sizeP p
  | _, _, .cell _ => by rw [sizeP_eq, sizeP_eq, kids_cell, kids_cell]; simp [sizeB, kdOf, ofString_inj]
  | _, _, .row h => by rw [sizeP_eq, sizeP_eq, kids_row, kids_row, h.sz]; simp [sizeB, kdOf, ofString_inj]
  | _, _, .choice _ hl hk => by
    rw [sizeP_eq, sizeP_eq, kids_choice, kids_choice, opts_part hl, opts_part (hl.trans hk.len), hk.sz]; simp [sizeB, kdOf, ofString_inj]
  | _, _, .times h => by rw [sizeP_eq, sizeP_eq, kids_times, kids_times]; simp [sizeB, kdOf, fldOf, itsOf, numOf, ofString_inj, h.sz]
  | _, _, .counted _ _ _ => by rw [sizeP_eq, sizeP_eq]; simp [sizeB, kdOf, ofString_inj]
  | _, _, .within _ _ => by rw [sizeP_eq, sizeP_eq]; simp [sizeB, kdOf, ofString_inj]
  | _, _, .fill _ => by rw [sizeP_eq, sizeP_eq]; simp [sizeB, kdOf, ofString_inj]
  | _, _, .ifleft _ => by rw [sizeP_eq, sizeP_eq]; simp [sizeB, kdOf, ofString_inj]
  | _, _, .need => rfl
  | _, _, .gone => by rw [sizeP_eq, sizeP_eq, kids_row, kids_need]; simp [sizeB, kdOf, ofString_inj]
  | _, _, .pad _ => by rw [sizeP_eq, sizeP_eq]; simp [sizeB, kdOf, ofString_inj]
theorem FwL.sz : ∀ {ps qs : List A.D}, FwL ps qs → qs.map sizeP = ps.map sizeP
  | _, _, .nil => rfl
  | _, _, .cons h hs => by simp [h.sz, hs.sz]
end

/-! ### fewer checks: what stays -/
theorem hows_w {a b : Str} (h : wkr a b) (ha : isOneOf hows (.str a) = true) : isOneOf hows (.str b) = true := by
  rcases h with rfl | ⟨rfl, rfl⟩
  · exact ha
  · simp [isOneOf, hows]
mutual
theorem Fw.asks : ∀ {p q : A.D}, Fw p q → asksP p = false → asksP q = false
  | _, _, .cell _, h => by rw [asksP_eq] at h ⊢; rw [kids_cell] at h ⊢; simpa [kdOf, ofString_inj] using h
  | _, _, .row hk, h => by
    rw [asksP_eq] at h ⊢
    rw [kids_row] at h ⊢
    have := hk.asks (by simpa only [kdOf, ofString_inj, String.reduceEq, decide_false, Bool.false_or, Bool.false_and] using h)
    simpa only [kdOf, ofString_inj, String.reduceEq, decide_false, Bool.false_or, Bool.false_and] using this
  | _, _, .choice _ hl hk, h => by
    rw [asksP_eq] at h ⊢
    rw [kids_choice, opts_part hl] at h
    rw [kids_choice, opts_part (hl.trans hk.len)]
    have := hk.asks (by simpa only [kdOf, ofString_inj, String.reduceEq, decide_false, Bool.false_or, Bool.false_and] using h)
    simpa only [kdOf, ofString_inj, String.reduceEq, decide_false, Bool.false_or, Bool.false_and] using this
  | _, _, .times hk, h => by
    rw [asksP_eq] at h ⊢
    rw [kids_times] at h ⊢
    have := hk.asks (by simpa [kdOf, ofString_inj] using h)
    simpa [kdOf, ofString_inj] using this
  | _, _, .counted (ah := ah) _ ha hk, h => by
    rw [asksP_eq] at h ⊢
    rw [kids_counted] at h ⊢
    have e : ah = .non := by cases ah <;> first | rfl | simp [kdOf, ofString_inj, fldOf, itsOf] at h
    subst e
    have := hk.asks (by simpa [kdOf, ofString_inj, fldOf, itsOf] using h)
    have hb : _ = A.D.non := ha.elim id id
    simpa [kdOf, ofString_inj, fldOf, itsOf, hb] using this
  | _, _, .within _ _, h => by rw [asksP_eq] at h; simp [kdOf, ofString_inj] at h
  | _, _, .fill hk, h => by
    rw [asksP_eq] at h ⊢
    rw [kids_fill] at h ⊢
    have := hk.asks (by simpa [kdOf, ofString_inj] using h)
    simpa [kdOf, ofString_inj] using this
  | _, _, .ifleft hk, h => by
    rw [asksP_eq] at h ⊢
    rw [kids_ifleft] at h ⊢
    have := hk.asks (by simpa [kdOf, ofString_inj] using h)
    simpa [kdOf, ofString_inj] using this
  | _, _, .need, h => h
  | _, _, .gone, h => by rw [asksP_eq, kids_row]; simp [kdOf, ofString_inj]
  | _, _, .pad _, h => by rw [asksP_eq] at h ⊢; rw [kids_pad] at h ⊢; simpa [kdOf, ofString_inj] using h
theorem FwL.asks : ∀ {ps qs : List A.D}, FwL ps qs → (ps.map asksP).any id = false → (qs.map asksP).any id = false
  | _, _, .nil, h => h
  | _, _, .cons h hs, hp => by
    simp only [List.map_cons, List.any_cons, id, Bool.or_eq_false_iff] at hp ⊢
    exact ⟨h.asks hp.1, hs.asks hp.2⟩
end
mutual
theorem Fw.cnt : ∀ {p q : A.D}, Fw p q → countP q = countP p ∧ unrollP q = unrollP p
  | _, _, .cell _ => by simp [countP_eq, unrollP_eq, kids_cell, kdOf, ofString_inj]
  | _, _, .row hk => by
    obtain ⟨h1, h2⟩ := hk.cnt
    rw [countP_eq, countP_eq, unrollP_eq, unrollP_eq, kids_row, kids_row, h1, h2]
    simp [kdOf, ofString_inj]
  | _, _, .choice _ hl hk => by
    obtain ⟨h1, h2⟩ := hk.cnt
    rw [countP_eq, countP_eq, unrollP_eq, unrollP_eq, kids_choice, kids_choice, opts_part hl, opts_part (hl.trans hk.len), h1, h2]
    simp [kdOf, ofString_inj]
  | _, _, .times hk => by
    obtain ⟨h1, h2⟩ := hk.cnt
    rw [countP_eq, countP_eq, unrollP_eq, unrollP_eq, kids_times, kids_times]
    simp [kdOf, ofString_inj, fldOf, itsOf, h1, h2]
  | _, _, .counted _ _ hk => by
    obtain ⟨h1, h2⟩ := hk.cnt
    rw [countP_eq, countP_eq, unrollP_eq, unrollP_eq, kids_counted, kids_counted]
    simp [kdOf, ofString_inj, h1, h2]
  | _, _, .within _ hk => by
    obtain ⟨h1, h2⟩ := hk.cnt
    rw [countP_eq, countP_eq, unrollP_eq, unrollP_eq, kids_within, kids_within]
    simp [kdOf, ofString_inj, h1, h2]
  | _, _, .fill hk => by
    obtain ⟨h1, h2⟩ := hk.cnt
    rw [countP_eq, countP_eq, unrollP_eq, unrollP_eq, kids_fill, kids_fill]
    simp [kdOf, ofString_inj, h1, h2]
  | _, _, .ifleft hk => by
    obtain ⟨h1, h2⟩ := hk.cnt
    rw [countP_eq, countP_eq, unrollP_eq, unrollP_eq, kids_ifleft, kids_ifleft]
    simp [kdOf, ofString_inj, h1, h2]
  | _, _, .need => ⟨rfl, rfl⟩
  | _, _, .gone => by simp [countP_eq, unrollP_eq, kids_need, kids_row, kdOf, ofString_inj]
  | _, _, .pad _ => by simp [countP_eq, unrollP_eq, kids_pad, kdOf, ofString_inj]
theorem FwL.cnt : ∀ {ps qs : List A.D}, FwL ps qs → qs.map countP = ps.map countP ∧ qs.map unrollP = ps.map unrollP
  | _, _, .nil => ⟨rfl, rfl⟩
  | _, _, .cons h hs => by
    obtain ⟨h1, h2⟩ := h.cnt
    obtain ⟨h3, h4⟩ := hs.cnt
    exact ⟨by simp [h1, h3], by simp [h2, h4]⟩
end
theorem form_w {p q : A.D} (h : Fw p q) (hs : hasForm p = true) : hasForm q = true := by
  cases h with
  | cell hw =>
    simp [hasForm, lens, List.lookup, formB, isCellB] at hs ⊢
    exact ⟨⟨hs.1.1, hows_w hw hs.1.2⟩, hs.2⟩
  | row hk => simpa [hasForm, lens, List.lookup, formB, rowB, ofString_inj, ofString_beq, hk.len] using hs
  | choice hw hl hk =>
    simp [hasForm, lens, List.lookup, formB, ofString_inj, ofString_beq, areOpts] at hs ⊢
    refine ⟨hows_w hw hs.1, by simpa [optsD, ← hk.len] using hs.2.1, ?_⟩
    have h2 := opts_b (cs := _) (show (optsD _ _).length = _ from by simp [optsD, hl]; exact hk.len) hs.2.2
    rwa [opts_num hl] at h2
  | times => simpa [hasForm, lens, List.lookup, formB, ofString_inj, ofString_beq] using hs
  | counted hw ha =>
    simp [hasForm, lens, List.lookup, formB, ofString_inj, ofString_beq] at hs ⊢
    refine ⟨hows_w hw hs.1, hs.2.1, ?_⟩
    rcases ha with rfl | rfl
    · exact hs.2.2
    · rfl
  | within hw =>
    simp [hasForm, lens, List.lookup, formB, ofString_inj, ofString_beq, isLimitB] at hs ⊢
    exact ⟨hows_w hw hs.1, hs.2⟩
  | fill => simpa [hasForm, lens, List.lookup, formB, ofString_inj, ofString_beq] using hs
  | ifleft => simpa [hasForm, lens, List.lookup, formB, ofString_inj, ofString_beq] using hs
  | need => exact hs
  | gone => simp [hasForm, lens, List.lookup, formB, rowB, ofString_inj, ofString_beq]
  | pad hw =>
    simp [hasForm, lens, List.lookup, formB, ofString_inj, ofString_beq] at hs ⊢
    exact ⟨hs.1, hows_w hw hs.2⟩
theorem bad_w {p q : A.D} (h : Fw p q) (hb : badP p = false) : badP q = false := by
  cases h with
  | cell => simp [badP, kdOf, ofString_inj]
  | row => simp [badP, kdOf, ofString_inj]
  | choice => simp [badP, kdOf, ofString_inj]
  | times => simp [badP, kdOf, ofString_inj]
  | counted hw ha hk =>
    rcases ha with rfl | rfl
    · simpa [badP, kdOf, ofString_inj, fldOf, itsOf, hk.sz] using hb
    · simp [badP, kdOf, ofString_inj, fldOf, itsOf]
  | within hw hk =>
    rename_i lim _ _ _
    simp only [badP, kdOf, fldOf, itsOf, ofString_inj, String.reduceEq, decide_false, Bool.false_and, Bool.false_or, decide_true, Bool.true_and, List.getD_cons_succ, List.getD_cons_zero] at hb ⊢
    rcases Bool.and_eq_false_iff.mp hb with hb | hb
    · rw [hb]; rfl
    · rw [hk.asks hb, Bool.and_false]
  | fill => simp [badP, kdOf, ofString_inj]
  | ifleft => simp [badP, kdOf, ofString_inj]
  | need => exact hb
  | gone => simp [badP, kdOf, ofString_inj]
  | pad => simp [badP, kdOf, ofString_inj]
theorem FwL.get : ∀ {ps qs : List A.D}, FwL ps qs → ∀ q ∈ qs, ∃ p ∈ ps, Fw p q
  | _, _, .nil, q, h => by simp at h
  | _, _, .cons h hs, q, hq => by
    rcases List.mem_cons.mp hq with rfl | hq
    · exact ⟨_, by simp, h⟩
    · obtain ⟨p, hp, hw⟩ := hs.get q hq
      exact ⟨p, by simp [hp], hw⟩
theorem kids_w {p q : A.D} (h : Fw p q) : ∀ c ∈ kidsD q, ∃ b ∈ kidsD p, Fw b c := by
  cases h with
  | cell => rw [kids_cell]; simp
  | row hk => rw [kids_row, kids_row]; exact hk.get
  | choice hw hl hk => rw [kids_choice, kids_choice, opts_part hl, opts_part (hl.trans hk.len)]; exact hk.get
  | times hk => rw [kids_times, kids_times]; simpa using hk
  | counted _ _ hk => rw [kids_counted, kids_counted]; simpa using hk
  | within _ hk => rw [kids_within, kids_within]; simpa using hk
  | fill hk => rw [kids_fill, kids_fill]; simpa using hk
  | ifleft hk => rw [kids_ifleft, kids_ifleft]; simpa using hk
  | need => rw [kids_need]; simp
  | gone => rw [kids_row]; simp
  | pad => rw [kids_pad]; simp
theorem pr_w : ∀ {n : Nat} {p q : A.D}, Fw p q → Pr n p → Pr n q
  | 0, _, _, _, h => by cases h
  | n + 1, p, q, hw, h => .mk (shp_of (form_w hw (form_of h.shp))) (bad_w hw h.bad) fun c hc => by
    obtain ⟨b, hb, hw'⟩ := kids_w hw c hc
    exact pr_w hw' (h.kid hb)
theorem pw_w : ∀ {n : Nat} {p q : A.D}, Fw p q → Pw n p → Pw n q
  | 0, _, _, _, h => by cases h
  | n + 1, p, q, hw, h => .mk (shp_of (form_w hw (form_of h.shp))) fun c hc => by
    obtain ⟨b, hb, hw'⟩ := kids_w hw c hc
    exact pw_w hw' (h.kid hb)
/-- a right part, small enough -/
structure Sm (d : A.D) : Prop where
  pr : Pr 8 d
  cnt : countP d ≤ 60
  unr : unrollP d ≤ 1000
theorem Sm.wp {d : A.D} (h : Sm d) : wpP d = none := wp_none h.pr h.cnt h.unr
theorem Sm.w {d d' : A.D} (h : Sm d) (hw : Fw d d') : Sm d' := ⟨pr_w hw h.pr, by rw [hw.cnt.1]; exact h.cnt, by rw [hw.cnt.2]; exact h.unr⟩
/-- a part is data -/
theorem dt_pw : ∀ {n : Nat} {d : A.D}, Pw n d → Dt (3 * n) d
  | 0, _, h => by cases h
  | n + 1, d, h => by
    have hk : ∀ c ∈ kidsD d, Dt (3 * n) c := fun c hc => dt_pw (h.kid hc)
    have how : ∀ {a : A.D}, isOneOf hows a = true → Dt (3 * n + 2) a := fun h => by
      rcases how_str h with rfl | rfl <;> exact .str (by decide +kernel)
    have mo : ∀ {g : Int} {a : A.D}, isMost g a = true → Dt (3 * n + 2) a := fun h => by
      rcases most_parts h with rfl | ⟨i, rfl, _⟩
      · exact .non
      · exact .int
    have up : ∀ {c : A.D}, c ∈ kidsD d → Dt (3 * n + 2) c := fun hc => (hk _ hc).up (by omega)
    cases h.shp with
    | cell hc =>
      obtain ⟨⟨i, rfl, _⟩, hb, hh⟩ := cell_parts hc
      refine Dt.tup (k := 3 * n + 2) ?_
      simp
      refine ⟨.str (by decide +kernel), .int, ?_, how hh⟩
      rcases hb with rfl | ⟨j, rfl⟩
      · exact .non
      · exact .int
    | row hl =>
      rw [kids_row] at hk
      refine Dt.tup (k := 3 * n + 2) ?_
      simp
      exact ⟨.str (by decide +kernel), (Dt.tup hk).up (by omega)⟩
    | choice hm ho =>
      rw [kids_choice] at hk
      refine Dt.tup (k := 3 * n + 2) ?_
      simp
      refine ⟨.str (by decide +kernel), how hm, Dt.tup fun o ho' => ?_⟩
      obtain ⟨i, p, rfl⟩ := (areOpts_mem ho).1 o ho'
      have := hk p (List.mem_map.mpr ⟨_, ho', rfl⟩)
      refine Dt.tup ?_
      simp
      exact ⟨.int, this⟩
    | times =>
      rw [kids_times] at up
      refine Dt.tup (k := 3 * n + 2) ?_
      simp
      exact ⟨.str (by decide +kernel), .int, up (by simp)⟩
    | counted hm ha hb =>
      rw [kids_counted] at up
      refine Dt.tup (k := 3 * n + 2) ?_
      simp
      exact ⟨.str (by decide +kernel), how hm, mo ha, mo hb, up (by simp)⟩
    | within hl =>
      rw [kids_within] at up
      obtain ⟨h1, h2, h3, h4⟩ := limit_parts hl
      refine Dt.tup (k := 3 * n + 2) ?_
      simp
      refine ⟨.str (by decide +kernel), how h1, mo h2, ?_, ?_, up (by simp)⟩
      · rename_i l _ _
        cases l <;> simp [isOneOf] at h3
        exact .str (lim_ok h3)
      · rename_i r _
        cases r <;> simp [isOneOf] at h4
        exact .str (rest_ok h4)
    | fill =>
      rw [kids_fill] at up
      refine Dt.tup (k := 3 * n + 2) ?_
      simp
      exact ⟨.str (by decide +kernel), up (by simp)⟩
    | ifleft =>
      rw [kids_ifleft] at up
      refine Dt.tup (k := 3 * n + 2) ?_
      simp
      exact ⟨.str (by decide +kernel), up (by simp)⟩
    | need =>
      refine Dt.tup (k := 3 * n + 2) ?_
      simp
      exact ⟨.str (by decide +kernel), .int⟩
    | pad h0 h1 ha =>
      refine Dt.tup (k := 3 * n + 2) ?_
      simp
      exact ⟨.str (by decide +kernel), .int, how ha⟩
theorem Sm.pw {d : A.D} (h : Sm d) : Pw 8 d := h.pr.pw
theorem Sm.dt {d : A.D} (h : Sm d) : Dt 62 d := (dt_pw h.pw).up (by decide)
theorem Sm.pd {d : A.D} (h : Sm d) : isPd d = true := h.dt.1
/-! ### one check less -/
theorem withK_self {d : A.D} (h : Shp d) : withK d (kidsD d) = d := by
  cases h with
  | cell => rw [withK_cell]
  | row => rw [kids_row, withK_row]
  | choice hm ho => rw [kids_choice, withK_choice, ← optsD_of (areOpts_mem ho).1]
  | times => rw [kids_times, withK_times]
  | counted => rw [kids_counted, withK_counted]
  | within => rw [kids_within, withK_within]
  | fill => rw [kids_fill, withK_fill]
  | ifleft => rw [kids_ifleft, withK_ifleft]
  | need => rw [withK_need]
  | pad => rw [withK_pad]
theorem FwL.one {p : A.D} {cs : List A.D} (h : FwL [p] cs) : ∃ c, cs = [c] ∧ Fw p c := by
  cases h with
  | cons h hs => cases hs; exact ⟨_, rfl, h⟩
theorem fw_withK {d : A.D} {cs : List A.D} (h : Shp d) (hk : FwL (kidsD d) cs) : Fw d (withK d cs) := by
  cases h with
  | cell hc =>
    obtain ⟨_, _, hh⟩ := cell_parts hc
    rw [withK_cell]
    rcases how_str hh with rfl | rfl <;> exact .cell (.inl rfl)
  | row => rw [kids_row] at hk; rw [withK_row]; exact .row hk
  | choice hm ho =>
    rename_i os
    rw [kids_choice] at hk
    rw [withK_choice]
    have e := optsD_of (areOpts_mem ho).1
    have hl : (os.map optNum).length = (os.map optPart).length := by simp
    rcases how_str hm with rfl | rfl
    · have := Fw.choice (a := "checked") (b := "checked") (.inl rfl) hl hk
      rw [← e] at this
      exact this
    · have := Fw.choice (a := "bare") (b := "bare") (.inl rfl) hl hk
      rw [← e] at this
      exact this
  | times => rw [kids_times] at hk; obtain ⟨c, rfl, h⟩ := hk.one; rw [withK_times]; exact .times h
  | counted hm ha hb =>
    rw [kids_counted] at hk; obtain ⟨c, rfl, h⟩ := hk.one; rw [withK_counted]
    rcases how_str hm with rfl | rfl <;> exact .counted (.inl rfl) (.inl rfl) h
  | within hl =>
    rw [kids_within] at hk; obtain ⟨c, rfl, h⟩ := hk.one; rw [withK_within]
    rcases how_str (limit_parts hl).1 with rfl | rfl <;> exact .within (.inl rfl) h
  | fill => rw [kids_fill] at hk; obtain ⟨c, rfl, h⟩ := hk.one; rw [withK_fill]; exact .fill h
  | ifleft => rw [kids_ifleft] at hk; obtain ⟨c, rfl, h⟩ := hk.one; rw [withK_ifleft]; exact .ifleft h
  | need => rw [withK_need]; exact .need
  | pad h0 h1 ha =>
    rw [withK_pad]
    rcases how_str ha with rfl | rfl <;> exact .pad (.inl rfl)
theorem fwL_refl : ∀ {xs : List A.D}, (∀ x ∈ xs, Fw x x) → FwL xs xs
  | [], _ => .nil
  | x :: xs, h => .cons (h x (by simp)) (fwL_refl fun y hy => h y (by simp [hy]))
theorem fw_refl : ∀ {n : Nat} {d : A.D}, Pw n d → Fw d d
  | 0, _, h => by cases h
  | n + 1, d, h => by
    have := fw_withK h.shp (fwL_refl fun x hx => fw_refl (h.kid hx))
    rwa [withK_self h.shp] at this
theorem fwL_set : ∀ {xs : List A.D} {j : Nat} {c o : A.D}, (∀ x ∈ xs, Fw x x) → xs[j]? = some c → Fw c o → FwL xs (xs.set j o)
  | [], _, _, _, _, h, _ => by simp at h
  | x :: xs, 0, c, o, hr, h, hw => by
    simp at h
    subst h
    exact .cons hw (fwL_refl fun y hy => hr y (by simp [hy]))
  | x :: xs, j + 1, c, o, hr, h, hw => .cons (hr x (by simp)) (fwL_set (fun y hy => hr y (by simp [hy])) (by simpa using h) hw)
theorem fw_rep : ∀ {p : List Int} {d o : A.D} {n : Nat}, Pw n d → okP d p → Fw (atP d p) o → Fw d (repP d p o)
  | [], _, _, _, _, _, hw => hw
  | i :: p, d, o, 0, h, _, _ => by cases h
  | i :: p, d, o, n + 1, h, ⟨h0, h1, h2⟩, hw =>
    fw_withK h.shp (fwL_set (fun x hx => fw_refl (h.kid hx)) (kid_get h0 h1) (fw_rep (h.kid (kid_mem h0 h1)) h2 hw))
theorem own_withK {d : A.D} {cs : List A.D} (h : Shp d) (hl : cs.length = (kidsD d).length) : ownW (withK d cs) = ownW d := by
  cases h with
  | cell => rw [withK_cell]
  | row => rw [withK_row]; simp [ownW, kdOf, ofString_inj]
  | choice => rw [withK_choice]; simp [ownW, ownL, kdOf, fldOf, itsOf, ofString_inj]
  | times => rw [kids_times] at hl; obtain ⟨c, rfl⟩ := len1 hl; rw [withK_times]; simp [ownW, kdOf, ofString_inj]
  | counted => rw [kids_counted] at hl; obtain ⟨c, rfl⟩ := len1 hl; rw [withK_counted]; simp [ownW, ownL, kdOf, fldOf, itsOf, ofString_inj]
  | within => rw [kids_within] at hl; obtain ⟨c, rfl⟩ := len1 hl; rw [withK_within]; simp [ownW, ownL, kdOf, fldOf, itsOf, ofString_inj]
  | fill => rw [kids_fill] at hl; obtain ⟨c, rfl⟩ := len1 hl; rw [withK_fill]; simp [ownW, kdOf, ofString_inj]
  | ifleft => rw [kids_ifleft] at hl; obtain ⟨c, rfl⟩ := len1 hl; rw [withK_ifleft]; simp [ownW, kdOf, ofString_inj]
  | need => rw [withK_need]
  | pad => rw [withK_pad]
/-- a check of a part is taken off -/
structure Less (q : A.D) (x : Str) : Prop where
  fw : Fw q (woW q x)
  kids : kidsD (woW q x) = kidsD q
  own : ∀ y ∈ ownW q, y ≠ x → y ∈ ownW (woW q x)
  gone : x ∉ ownW (woW q x)
theorem own_cell {a b : A.D} {h : Str} : ownW (.tup [.str "cell", a, b, .str h]) = if h = "checked" then (["look"] : List Str) else [] := by simp [ownW, ownL, kdOf, fldOf, itsOf, isS]
theorem own_choice {os : A.D} {h : Str} : ownW (.tup [.str "choice", .str h, os]) = if h = "checked" then (["look"] : List Str) else [] := by simp [ownW, ownL, kdOf, fldOf, itsOf, isS, ofString_inj]
theorem own_counted {a b p : A.D} {h : Str} : ownW (.tup [.str "counted", .str h, a, b, p]) = (if h = "checked" then (["look"] : List Str) else []) ++ aheadW b := by simp [ownW, ownL, kdOf, fldOf, itsOf, isS, ofString_inj]
theorem own_within {a b c p : A.D} {h : Str} : ownW (.tup [.str "within", .str h, a, b, c, p]) = if h = "checked" then (["look"] : List Str) else [] := by simp [ownW, ownL, kdOf, fldOf, itsOf, isS, ofString_inj]
theorem own_pad {m : A.D} {h : Str} : ownW (.tup [.str "pad", m, .str h]) = if h = "checked" then (["look"] : List Str) else [] := by simp [ownW, ownL, kdOf, fldOf, itsOf, isS, ofString_inj]
theorem own_need {m : A.D} : ownW (.tup [.str "need", m]) = (["need"] : List Str) := by simp [ownW, kdOf, ofString_inj]
theorem own_row {m : A.D} : ownW (.tup [.str "row", m]) = [] := by simp [ownW, kdOf, ofString_inj]
theorem own_times {a b : A.D} : ownW (.tup [.str "times", a, b]) = [] := by simp [ownW, kdOf, ofString_inj]
theorem own_fill {a : A.D} : ownW (.tup [.str "fill", a]) = [] := by simp [ownW, kdOf, ofString_inj]
theorem own_ifleft {a : A.D} : ownW (.tup [.str "if left", a]) = [] := by simp [ownW, kdOf, ofString_inj]
theorem wo_cell {a b h : A.D} : woW (.tup [.str "cell", a, b, h]) "look" = .tup [.str "cell", a, b, .str "bare"] := by simp [woW, setF, hiO, kdOf, itsOf, ofString_inj]
theorem wo_choice {h os : A.D} : woW (.tup [.str "choice", h, os]) "look" = .tup [.str "choice", .str "bare", os] := by simp [woW, setF, hiO, kdOf, itsOf, ofString_inj]
theorem wo_counted {h a b p : A.D} : woW (.tup [.str "counted", h, a, b, p]) "look" = .tup [.str "counted", .str "bare", a, b, p] := by simp [woW, setF, hiO, kdOf, itsOf, ofString_inj]
theorem wo_ahead {h a b p : A.D} : woW (.tup [.str "counted", h, a, b, p]) "ahead" = .tup [.str "counted", h, a, .non, p] := by simp [woW, setF, itsOf, ofString_inj]
theorem wo_within {h a b c p : A.D} : woW (.tup [.str "within", h, a, b, c, p]) "look" = .tup [.str "within", .str "bare", a, b, c, p] := by simp [woW, setF, hiO, kdOf, itsOf, ofString_inj]
theorem wo_pad {m h : A.D} : woW (.tup [.str "pad", m, h]) "look" = .tup [.str "pad", m, .str "bare"] := by simp [woW, setF, hiO, kdOf, itsOf, ofString_inj]
theorem wo_need {q : A.D} : woW q "need" = emptyD := by simp [woW]
theorem ckb : (("bare" : Str) = "checked") = False := by simp [ofString_inj]
theorem less_of {q : A.D} {x : Str} {n : Nat} (h : Pw n q) (hx : x ∈ ownW q) : Less q x := by
  cases h with
  | mk hs hk =>
  have hkk : ∀ c ∈ kidsD q, Fw c c := fun c hc => fw_refl (hk c hc)
  cases hs with
  | cell hc =>
    obtain ⟨_, _, hh⟩ := cell_parts hc
    rcases how_str hh with rfl | rfl
    · rw [own_cell, if_pos rfl] at hx
      obtain rfl : x = "look" := by simpa using hx
      refine ⟨?_, ?_, ?_, ?_⟩ <;> rw [wo_cell]
      · exact .cell (.inr ⟨rfl, rfl⟩)
      · rw [kids_cell, kids_cell]
      · rw [own_cell, if_pos rfl]; intro y hy hne; exact absurd (by simpa using hy) hne
      · rw [own_cell]; simp [ckb]
    · rw [own_cell] at hx; simp [ckb] at hx
  | row => rw [own_row] at hx; simp at hx
  | choice hm ho =>
    rename_i os
    have e := optsD_of (areOpts_mem ho).1
    rw [kids_choice] at hkk
    rcases how_str hm with rfl | rfl
    · rw [own_choice, if_pos rfl] at hx
      obtain rfl : x = "look" := by simpa using hx
      refine ⟨?_, ?_, ?_, ?_⟩ <;> rw [wo_choice]
      · have hl : (os.map optNum).length = (os.map optPart).length := by simp
        have := Fw.choice (a := "checked") (b := "bare") (.inr ⟨rfl, rfl⟩) hl (fwL_refl hkk)
        rwa [← e] at this
      · rw [kids_choice, kids_choice]
      · rw [own_choice, if_pos rfl]; intro y hy hne; exact absurd (by simpa using hy) hne
      · rw [own_choice]; simp [ckb]
    · rw [own_choice] at hx; simp [ckb] at hx
  | times => rw [own_times] at hx; simp at hx
  | counted hm ha hb =>
    rename_i m a b p
    rw [kids_counted] at hkk
    have hp := hkk p (by simp)
    by_cases z : x = "ahead"
    · subst z
      refine ⟨?_, ?_, ?_, ?_⟩ <;> rw [wo_ahead]
      · rcases how_str hm with rfl | rfl <;> exact .counted (.inl rfl) (.inr rfl) hp
      · rw [kids_counted, kids_counted]
      · rcases how_str hm with rfl | rfl
        · rw [own_counted, own_counted, if_pos rfl]
          intro y hy hne
          rcases List.mem_append.mp hy with hy | hy
          · exact List.mem_append.mpr (.inl hy)
          · rcases most_parts hb with rfl | ⟨i, rfl, _⟩
            · simp [aheadW] at hy
            · exact absurd (by simpa [aheadW] using hy) hne
        · rw [own_counted, own_counted]
          intro y hy hne
          rcases List.mem_append.mp hy with hy | hy
          · simp [ckb] at hy
          · rcases most_parts hb with rfl | ⟨i, rfl, _⟩
            · simp [aheadW] at hy
            · exact absurd (by simpa [aheadW] using hy) hne
      · rcases how_str hm with rfl | rfl <;> rw [own_counted] <;> simp [aheadW, ckb, ofString_inj]
    · rcases how_str hm with rfl | rfl
      · have z2 : x = "look" := by
          rw [own_counted, if_pos rfl] at hx
          rcases List.mem_append.mp hx with hx | hx
          · simpa using hx
          · rcases most_parts hb with rfl | ⟨i, rfl, _⟩
            · simp [aheadW] at hx
            · exact absurd (by simpa [aheadW] using hx) z
        subst z2
        refine ⟨?_, ?_, ?_, ?_⟩ <;> rw [wo_counted]
        · exact .counted (.inr ⟨rfl, rfl⟩) (.inl rfl) hp
        · rw [kids_counted, kids_counted]
        · rw [own_counted, own_counted, if_pos rfl]
          intro y hy hne
          rcases List.mem_append.mp hy with hy | hy
          · exact absurd (by simpa using hy) hne
          · exact List.mem_append.mpr (.inr hy)
        · rw [own_counted]
          rcases most_parts hb with rfl | ⟨i, rfl, _⟩ <;> simp [aheadW, ckb, ofString_inj]
      · rw [own_counted] at hx
        rcases List.mem_append.mp hx with hx | hx
        · simp [ckb] at hx
        · rcases most_parts hb with rfl | ⟨i, rfl, _⟩
          · simp [aheadW] at hx
          · exact absurd (by simpa [aheadW] using hx) z
  | within hl =>
    rw [kids_within] at hkk
    have hp := hkk _ (List.mem_singleton.mpr rfl)
    rcases how_str (limit_parts hl).1 with rfl | rfl
    · rw [own_within, if_pos rfl] at hx
      obtain rfl : x = "look" := by simpa using hx
      refine ⟨?_, ?_, ?_, ?_⟩ <;> rw [wo_within]
      · exact .within (.inr ⟨rfl, rfl⟩) hp
      · rw [kids_within, kids_within]
      · rw [own_within, if_pos rfl]; intro y hy hne; exact absurd (by simpa using hy) hne
      · rw [own_within]; simp [ckb]
    · rw [own_within] at hx; simp [ckb] at hx
  | fill => rw [own_fill] at hx; simp at hx
  | ifleft => rw [own_ifleft] at hx; simp at hx
  | need =>
    rw [own_need] at hx
    obtain rfl : x = "need" := by simpa using hx
    refine ⟨?_, ?_, ?_, ?_⟩ <;> rw [wo_need]
    · exact .gone
    · rw [kids_need]; exact kids_row
    · rw [own_need]; intro y hy hne; exact absurd (by simpa using hy) hne
    · rw [show ownW emptyD = [] from own_row]; simp
  | pad h0 h1 ha =>
    rcases how_str ha with rfl | rfl
    · rw [own_pad, if_pos rfl] at hx
      obtain rfl : x = "look" := by simpa using hx
      refine ⟨?_, ?_, ?_, ?_⟩ <;> rw [wo_pad]
      · exact .pad (.inr ⟨rfl, rfl⟩)
      · rw [kids_pad, kids_pad]
      · rw [own_pad, if_pos rfl]; intro y hy hne; exact absurd (by simpa using hy) hne
      · rw [own_pad]; simp [ckb]
    · rw [own_pad] at hx; simp [ckb] at hx
abbrev Site := List Int × Str
def sitesP (d : A.D) : List Site := (subP 8 d).flatMap fun e => (ownW e.2).map fun x => (e.1, x)
/-- a check that d has -/
def HasS (d : A.D) (s : Site) : Prop := okP d s.1 ∧ s.2 ∈ ownW (atP d s.1)
theorem mem_sites {d : A.D} (h : Pw 8 d) {s : Site} : s ∈ sitesP d ↔ HasS d s := by
  unfold sitesP HasS
  rw [List.mem_flatMap]
  constructor
  · rintro ⟨e, he, hs⟩
    obtain ⟨x, hx, rfl⟩ := List.mem_map.mp hs
    obtain ⟨h1, h2⟩ := sub_at he
    exact ⟨h1, by rw [h2]; exact hx⟩
  · rintro ⟨h1, h2⟩
    exact ⟨_, at_sub h h1, List.mem_map.mpr ⟨s.2, h2, rfl⟩⟩
def lessD (d : A.D) (s : Site) : A.D := repP d s.1 (woW (atP d s.1) s.2)
theorem less_step {d : A.D} {n : Nat} (h : Pw n d) {s : Site} (hs : HasS d s) : Fw d (lessD d s) ∧ (∀ t : Site, HasS d t → t ≠ s → HasS (lessD d s) t) ∧ ¬ HasS (lessD d s) s := by
  obtain ⟨h1, h2⟩ := hs
  obtain ⟨m, hm⟩ := pw_at h h1
  obtain ⟨l1, l2, l3, l4⟩ := less_of hm h2
  refine ⟨fw_rep h h1 l1, fun t ht hne => ?_, fun z => ?_⟩
  · obtain ⟨k1, k2, k3⟩ := at_rep h h1 l2 ht.1
    refine ⟨k1, ?_⟩
    by_cases e : t.1 = s.1
    · show t.2 ∈ ownW (atP (lessD d s) t.1)
      unfold lessD
      rw [k2 e]
      refine l3 _ (by rw [← e]; exact ht.2) fun e2 => hne ?_
      exact Prod.ext e e2
    · show t.2 ∈ ownW (atP (lessD d s) t.1)
      unfold lessD
      obtain ⟨cs, k4⟩ := k3 e
      rcases k4 with k4 | ⟨k5, k6, k7⟩
      · rw [k4]; exact ht.2
      · rw [k7, own_withK k6 k5]; exact ht.2
  · obtain ⟨k1, k2, k3⟩ := at_rep h h1 l2 h1
    have := z.2
    unfold lessD at this
    rw [k2 rfl] at this
    exact l4 this
/-- without the checks of L -/
def woS (L : List Site) (d : A.D) (s : Site) : A.D := if s ∈ L then lessD d s else d
def woP (L : List Site) (d : A.D) : A.D := (sitesP d).foldl (woS L) d
theorem nodup_map_inj {α β : Type} {f : α → β} (hf : ∀ a b, f a = f b → a = b) {l : List α} (h : l.Nodup) : (l.map f).Nodup := by
  rw [List.Nodup, List.pairwise_map]
  exact h.imp fun hne e => hne (hf _ _ e)
theorem subK_first {F : A.D → List (List Int × A.D)} {e : List Int × A.D} {xs : List A.D} {i : Int} (h : e ∈ subK F i xs) : ∃ j t, e.1 = j :: t ∧ i ≤ j := by
  obtain ⟨j, c, p, _, _, h3⟩ := mem_subK h
  exact ⟨_, p, h3, by omega⟩
theorem subK_nodup {F : A.D → List (List Int × A.D)} : ∀ {xs : List A.D} {i : Int}, (∀ x ∈ xs, ((F x).map (·.1)).Nodup) → ((subK F i xs).map (·.1)).Nodup
  | [], _, _ => by simp [subK]
  | x :: xs, i, h => by
    simp only [subK, List.map_append, List.map_map]
    rw [List.nodup_append]
    refine ⟨?_, subK_nodup fun y hy => h y (by simp [hy]), ?_⟩
    · have := h x (by simp)
      have e : ((fun e : List Int × A.D => e.1) ∘ fun e : List Int × A.D => (i :: e.1, e.2)) = (fun p : List Int => i :: p) ∘ (fun e : List Int × A.D => e.1) := rfl
      rw [e, ← List.map_map]
      exact nodup_map_inj (fun a b e => by simpa using e) this
    · intro a ha b hb hab
      subst hab
      obtain ⟨e1, _, rfl⟩ := List.mem_map.mp ha
      obtain ⟨e2, h2, h3⟩ := List.mem_map.mp hb
      obtain ⟨j, t, h4, h5⟩ := subK_first h2
      rw [h4] at h3
      simp at h3
      omega
theorem sub_nodup : ∀ {n : Nat} {d : A.D}, ((subP n d).map (·.1)).Nodup
  | 0, _ => by simp [subP]
  | n + 1, d => by
    simp only [subP, List.map_cons, List.nodup_cons]
    refine ⟨fun z => ?_, subK_nodup fun x _ => sub_nodup⟩
    obtain ⟨e, he, h⟩ := List.mem_map.mp z
    obtain ⟨j, t, h4, _⟩ := subK_first he
    rw [h4] at h
    cases h
theorem own_nodup (d : A.D) : (ownW d).Nodup ∧ (ownW d).length ≤ 2 := by
  unfold ownW ownL aheadW
  repeat' split
  all_goals simp [ofString_inj]
theorem flat_nodup : ∀ {es : List (List Int × A.D)}, (es.map (·.1)).Nodup → (es.flatMap fun e => (ownW e.2).map fun x => (e.1, x)).Nodup
  | [], _ => by simp
  | e :: es, h => by
    simp only [List.map_cons, List.nodup_cons] at h
    rw [List.flatMap_cons, List.nodup_append]
    refine ⟨nodup_map_inj (fun a b z => by simpa using z) (own_nodup e.2).1, flat_nodup h.2, ?_⟩
    intro a ha b hb hab
    subst hab
    obtain ⟨x, _, rfl⟩ := List.mem_map.mp ha
    obtain ⟨e2, h2, h3⟩ := List.mem_flatMap.mp hb
    obtain ⟨y, _, h4⟩ := List.mem_map.mp h3
    refine h.1 (List.mem_map.mpr ⟨e2, h2, ?_⟩)
    simpa using (Prod.mk.inj h4).1
theorem sites_nodup {d : A.D} : (sitesP d).Nodup := flat_nodup sub_nodup
theorem flat_len : ∀ {es : List (List Int × A.D)}, (es.flatMap fun e => (ownW e.2).map fun x => (e.1, x)).length ≤ 2 * es.length
  | [] => by simp
  | e :: es => by
    have := flat_len (es := es)
    have := (own_nodup e.2).2
    rw [List.flatMap_cons, List.length_append, List.length_map, List.length_cons]
    omega
theorem sites_len {d : A.D} (h : Sm d) : (sitesP d).length ≤ 120 := by
  have h1 := flat_len (es := subP 8 d)
  have h2 := sub_len h.pw
  have h3 := h.cnt
  unfold sitesP
  omega
/-- behind some of the checks -/
structure WoI (L : List Site) (d cur : A.D) (suf : List Site) : Prop where
  sm : Sm cur
  suf : ∀ s ∈ suf, HasS cur s
  rest : ∀ s, HasS d s → s ∉ L → HasS cur s
theorem wo_step {L : List Site} {d cur : A.D} {s : Site} {suf : List Site} (h : WoI L d cur (s :: suf)) (hn : (s :: suf).Nodup) : WoI L d (woS L cur s) suf := by
  have hs := h.suf s (by simp)
  have hn1 : s ∉ suf := (List.nodup_cons.mp hn).1
  unfold woS
  split
  · rename_i hL
    obtain ⟨f1, f2, _⟩ := less_step h.sm.pw hs
    refine ⟨h.sm.w f1, fun t ht => f2 t (h.suf t (by simp [ht])) fun e => hn1 (e ▸ ht), fun t ht hT => f2 t (h.rest t ht hT) fun e => hT (e ▸ hL)⟩
  · exact ⟨h.sm, fun t ht => h.suf t (by simp [ht]), h.rest⟩
theorem wo_fold {L : List Site} {d : A.D} : ∀ {suf : List Site} {cur : A.D}, WoI L d cur suf → suf.Nodup → WoI L d (suf.foldl (woS L) cur) []
  | [], _, h, _ => h
  | s :: suf, cur, h, hn => wo_fold (suf := suf) (wo_step h hn) (List.nodup_cons.mp hn).2
theorem wo_start {L : List Site} {d : A.D} (h : Sm d) : WoI L d d (sitesP d) := ⟨h, fun s hs => (mem_sites h.pw).mp hs, fun s hs _ => hs⟩
theorem wo_sm {L : List Site} {d : A.D} (h : Sm d) : Sm (woP L d) := (wo_fold (wo_start h) sites_nodup).sm
theorem wo_has {L : List Site} {d : A.D} (h : Sm d) {s : Site} (hs : HasS d s) (hL : s ∉ L) : HasS (woP L d) s := (wo_fold (wo_start h) sites_nodup).rest s hs hL
/-- one check alone -/
theorem wo_one {d : A.D} {s : Site} : ∀ {suf : List Site} {cur : A.D}, suf.Nodup → suf.foldl (woS [s]) cur = if s ∈ suf then lessD cur s else cur
  | [], _, _ => by simp
  | t :: suf, cur, hn => by
    obtain ⟨h1, h2⟩ := List.nodup_cons.mp hn
    rw [List.foldl_cons, wo_one (d := d) h2]
    unfold woS
    by_cases e : t = s
    · subst e
      simp [h1]
    · have e' : ¬ s = t := fun z => e z.symm
      simp [e, e']
theorem woP_one {d : A.D} (h : Sm d) {s : Site} (hs : HasS d s) : woP [s] d = lessD d s := by
  unfold woP
  rw [wo_one (d := d) sites_nodup, if_pos ((mem_sites h.pw).mpr hs)]


/-! ### the checks of a reader, walked -/
abbrev s_sites : Stmt := (topS 58)
theorem sc_sites : FnScope ["reader", "found", "path", "part", "word"] ["reader"] (defScope s_sites) := ⟨rfl, rfl, rfl, by decide +kernel, rfl, by decide +kernel, by decide +kernel⟩
abbrev s_woword : Stmt := (topS 59)
theorem sc_woword : FnScope ["part", "word"] ["part", "word"] (defScope s_woword) := ⟨rfl, rfl, rfl, by decide +kernel, rfl, by decide +kernel, by decide +kernel⟩
abbrev s_haspath : Stmt := (topS 45)
theorem sc_haspath : FnScope ["part", "path", "place", "inner", "index"] ["part", "path"] (defScope s_haspath) := ⟨rfl, rfl, rfl, by decide +kernel, rfl, by decide +kernel, by decide +kernel⟩
abbrev s_cksites : Stmt := (topS 60)
theorem sc_cksites : FnScope ["reader", "some", "known", "site"] ["reader", "some"] (defScope s_cksites) := ⟨rfl, rfl, rfl, by decide +kernel, rfl, by decide +kernel, by decide +kernel⟩
abbrev s_without : Stmt := (topS 61)
theorem sc_without : FnScope ["reader", "left_out", "known", "part", "path", "word"] ["reader", "left_out"] (defScope s_without) := ⟨rfl, rfl, rfl, by decide +kernel, rfl, by decide +kernel, by decide +kernel⟩
theorem u65 {k : Nat} {A : Around} (r : Room k A) : A.units + 65 < cLine := by have := r.un; omega
def siteD (s : Site) : A.D := .tup [pathD s.1, .str s.2]
def sitesD (L : List Site) : List A.D := L.map siteD
theorem own_mem {d : A.D} {x : Str} (h : x ∈ ownW d) : PyData.strOk x = true := by
  have : x = "look" ∨ x = "ahead" ∨ x = "need" := by
    unfold ownW ownL aheadW at h
    revert h
    repeat' split
    all_goals (intro h; first | (simp at h; done) | (simp at h; simp [h]) | (simp at h; rcases h with rfl | rfl <;> simp))
  rcases this with rfl | rfl | rfl <;> decide +kernel
theorem site_dt {s : Site} (h : PyData.strOk s.2 = true) : Dt 2 (siteD s) := Dt.tup (k := 1) (by simp; exact ⟨path_dt, .str h⟩)
theorem sites_ok {d : A.D} {s : Site} (h : s ∈ sitesP d) : PyData.strOk s.2 = true := by
  unfold sitesP at h
  obtain ⟨e, _, h⟩ := List.mem_flatMap.mp h
  obtain ⟨x, hx, rfl⟩ := List.mem_map.mp h
  exact own_mem hx
theorem sites_dt {d : A.D} {L : List Site} (h : ∀ s ∈ L, s ∈ sitesP d) : Dt 3 (.lst (sitesD L)) ∧ Dt 3 (.tup (sitesD L)) := by
  have : ∀ x ∈ sitesD L, Dt 2 x := fun x hx => by
    obtain ⟨s, hs, rfl⟩ := List.mem_map.mp hx
    exact site_dt (sites_ok (h s hs))
  exact ⟨Dt.lst this, Dt.tup this⟩
theorem eq_path {p q : List Int} : eqD (pathD p) (pathD q) = decide (p = q) := by
  have key : ∀ {p q : List Int}, PyData.eqvAll (pds (p.map A.D.int)) (pds (q.map A.D.int)) = decide (p = q) := by
    intro p
    induction p with
    | nil => intro q; cases q <;> simp [pds, PyData.eqvAll]
    | cons a p ih =>
      intro q
      cases q with
      | nil => simp [pds, PyData.eqvAll]
      | cons b q =>
        simp only [List.map_cons, pds, pd, PyData.eqvAll, PyData.eqv, ih, List.cons.injEq]
        by_cases h1 : a = b <;> by_cases h2 : p = q <;> simp [h1, h2]
  unfold eqD pathD
  simp only [pd, PyData.eqv]
  exact key
theorem eq_site {s t : Site} : eqD (siteD s) (siteD t) = decide (s = t) := by
  have h := eq_path (p := s.1) (q := t.1)
  unfold eqD at h ⊢
  simp only [siteD, pd, pds, PyData.eqv, PyData.eqvAll]
  rw [h]
  obtain ⟨a, b⟩ := s
  obtain ⟨c, d⟩ := t
  by_cases h1 : a = c <;> by_cases h2 : b = d <;> simp [h1, h2]
theorem any_site {L : List Site} {s : Site} : ((sitesD L).any fun y => eqD y (siteD s)) = decide (s ∈ L) := by
  induction L with
  | nil => simp [sitesD]
  | cons t L ih =>
    simp only [sitesD, List.map_cons, List.any_cons, eq_site] at ih ⊢
    rw [ih]
    by_cases h1 : t = s <;> by_cases h2 : s ∈ L <;> simp [h1, h2]
    exact fun e => h1 e.symm
/-- what is no check of a reader -/
def BadS (d : A.D) (b : A.D) : Prop := dat b = true ∧ ((∀ s ∈ sitesP d, eqD (siteD s) b = false) ∨ ∃ (ps : List A.D) (x : A.D), b = .tup [.tup ps, x] ∧ ps.all (isBetw 0 12) = false ∧ isPds ps = true ∧ dat (.tup ps) = true ∧ ps.length ≤ 1000)
def spSites : ASp := fun ds S Q _ => opt (one1 ds) fun x => ∃ r d, x = .ref r ∧ S[r]? = some (rdrO d) ∧ Sm d ∧ Q (.lst (sitesD (sitesP d))) S
def spSitesI : ASp := fun ds S Q _ => opt (one1 ds) fun x => ∃ r d, x = .ref r ∧ S[r]? = some (rdrO d) ∧ Sm d ∧ ∀ o T, S.length ≤ o → (S ++ T)[o]? = some (.lst (sitesD (sitesP d))) → Q (.ref o) (S ++ T)
def spWow : ASp := fun ds S Q _ => opt (two2 ds) fun e => ∃ q x, e = (q, .str x) ∧ Shp q ∧ x ∈ ownW q ∧ Q (woW q x) S
def spHp : ASp := fun ds S Q _ => opt (two2 ds) fun e => ∃ d ps, e = (d, .tup ps) ∧ Sm d ∧ isPds ps = true ∧ dat (.tup ps) = true ∧ ps.length ≤ 1000 ∧ Q (.bl (ps.all (isBetw 0 12) && (subP 8 d).any fun e => eqD (pathD e.1) (.tup ps))) S
def spCks : ASp := fun ds S Q E => opt (two2 ds) fun e => ∃ r d xs, e = (.ref r, .tup xs) ∧ S[r]? = some (rdrO d) ∧ Sm d ∧ ((∃ L, xs = sitesD L ∧ (∀ s ∈ L, s ∈ sitesP d) ∧ Q .non S) ∨ ∃ L b rest, xs = sitesD L ++ b :: rest ∧ (∀ s ∈ L, s ∈ sitesP d) ∧ BadS d b ∧ E ⟨"NoWord", ["value"], [b]⟩ S)
def spWo : ASp := fun ds S Q E => opt (two2 ds) fun e => ∃ r d xs, e = (.ref r, .tup xs) ∧ S[r]? = some (rdrO d) ∧ Sm d ∧ ((∃ L, xs = sitesD L ∧ (∀ s ∈ L, s ∈ sitesP d) ∧ Q (.ref S.length) (S ++ [rdrO (woP L d)])) ∨ ∃ L b rest, xs = sitesD L ++ b :: rest ∧ (∀ s ∈ L, s ∈ sitesP d) ∧ BadS d b ∧ E ⟨"NoWord", ["value"], [b]⟩ S)
section
variable {P : Program} {w : World} {K : PySem.W.Frag} {cA : Str → Addr} {mg : Str → Option Value} {base : Heap} {f : Addr} {fd : FuncData} {n k : Nat}
theorem d_sites (D : Dfn K mg "sites" s_sites ["reader"] f fd) (T : Bn mg) (pPart : Prp P w K mg base 1 (cA "Reader") "part" (upSp ⟨K, cA⟩ spRpart)) (cSu : Fnc P w K mg base 9 "subparts" (upSp ⟨K, cA⟩ (spSub 8))) (cOw : Fnc P w K mg base 2 "own_words" (upSp ⟨K, cA⟩ spOwn)) : Fnc P w K mg base 10 "sites" (upSp ⟨K, cA⟩ spSites) := by
  refine Fnc.pure (sp := spSitesI) (D.fnc (def_ok (k := 9) D.F sc_sites (fun cdv A outer s H E hr => (js_cons (js_set (i := 1) sc_sites.nd rfl (Or.inl rfl) (j_lstM ja_nil))
    (js_cons (js_for (vs := [0, 1, 2, 3, 4]) (gl_tup (m := 2) (gls_cons (gl_name (i := 2) (by decide)) (gls_cons (gl_name (i := 3) (by decide)) gls_nil))) (passes_of rfl) rfl (ji_seq (j_fc cSu hr (by omega) rfl (L2N.passAt (L2N.takes_of rfl rfl rfl rfl)) (ja_cons (j_pr (C := "Reader") pPart hr (by omega) (jv 0)) ja_nil))) (kpg_tup K (n := 2) rfl (pgs_cons (pg_name (i := 2) sc_sites.nd rfl (Or.inr rfl)) (pgs_cons (pg_name (i := 3) sc_sites.nd rfl (Or.inl rfl)) pgs_nil)))
      (js_one (js_expr (j_extend (jv 1) (ja_cons (j_lc (own := [("word", 4)]) (tt := aYes) (by rfl) sc_sites.nd (gl_name (i := 4) (by decide)) (ji_seq (j_fc cOw hr (by omega) rfl (L2N.passAt (L2N.takes_of rfl rfl rfl rfl)) (ja_cons (jv 3) ja_nil))) (blkOk_by (own := [("word", 4)]) (N := ["reader", "found", "path", "part", "word"]) (sc := defScope s_sites) (by decide +kernel)) (fun _ _ _ _ _ => (pg_name (i := 4) sc_sites.nd rfl (Or.inl rfl))) (fun _ _ _ _ _ => jts_nil) (fun _ _ _ _ _ => (j_tup (ja_cons (jv 2) (ja_cons (jv 4) ja_nil))))) ja_nil)))))
    (js_one (js_ret (jv 1)))))) ?_ ?_)) ?_
  · intro ds S Q E h
    obtain ⟨a, rfl, _⟩ := opt_one h
    rfl
  · intro ds S Q E h
    obtain ⟨x, rfl, r0, d, rfl, hr, hd, q⟩ := opt_one h
    clear h
    refine seq_by fun N1 hN1 => ?_
    simp_arith
    refine hN1 _ _ (seq_by fun N2 hN2 => ?_)
    clear hN1
    have hr1 : (S ++ [O.lst []])[r0]? = some (rdrO d) := by rw [List.getElem?_append_left (get_lt hr)]; exact hr
    simp_arith [rdr_get hr1, spRpart, List.lookup, ofString_beq, spSub]
    have hc := hd.cnt
    refine ⟨hd.pw, hd.pd, by omega, ?_⟩
    try simp_arith
    have hlen : ∀ {pre suf : List (List Int × A.D)}, subP 8 d = pre ++ suf → (pre.flatMap fun e => (ownW e.2).map fun x => (e.1, x)).length ≤ 120 := fun {pre suf} e => by
      have h1 := flat_len (es := pre)
      have h2 := sub_len hd.pw
      rw [e] at h2
      simp only [List.length_append] at h2
      omega
    refine forX_by (fun r ρ S' => ∃ (pre suf : List (List Int × A.D)) (a b c : Option A.D), subP 8 d = pre ++ suf ∧ r = suf.map prP ∧ ρ = [some (.ref r0), some (.ref S.length), a, b, c] ∧ S' = S ++ [.lst (sitesD (pre.flatMap fun e => (ownW e.2).map fun x => (e.1, x)))]) ?_ ?_ ⟨[], _, _, _, _, rfl, rfl, rfl, rfl⟩
    · rintro ρ S1 ⟨pre, suf, a, b, c, he, hs, rfl, rfl⟩
      have hs : suf = [] := by simpa using hs.symm
      subst hs
      refine hN2 _ _ ?_
      simp_arith
      refine q S.length _ (Nat.le_refl _) ?_
      rw [List.append_nil] at he
      unfold sitesP
      rw [he]
      simp
    · rintro y r2 ρ S1 ⟨pre, suf, a, b, c, he, hs, rfl, rfl⟩ F hF
      cases suf with
      | nil => simp at hs
      | cons e suf =>
        simp only [List.map_cons, List.cons.injEq] at hs
        obtain ⟨rfl, rfl⟩ := hs
        have hpw : ∃ m, Pw m e.2 := by
          have h1 : e ∈ subP 8 d := by rw [he]; simp
          obtain ⟨h2, h3⟩ := sub_at h1
          rw [← h3]
          exact pw_at hd.pw h2
        obtain ⟨m, hm⟩ := hpw
        have hl2 := (own_nodup e.2).2
        have he2 : subP 8 d = (pre ++ [e]) ++ suf := by rw [he]; simp
        have L1 := hlen he
        have L2 := hlen he2
        have e1 : lstAt (S ++ [O.lst (sitesD (pre.flatMap fun e => (ownW e.2).map fun x => (e.1, x)))]) S.length = some (sitesD (pre.flatMap fun e => (ownW e.2).map fun x => (e.1, x))) := lstAt_of (by simp)
        simp_arith [prP, spOwn, strsD]
        refine ⟨hm.shp, ?_⟩
        try simp_arith
        refine lcX_map (fun _ => true) (fun x => .tup [pathD e.1, x]) (by simp; omega) (fun x hx Y F' hY _ => ?_) ?_
        · have hY := hY rfl
          simp_arith
          exact hY
        · rw [filter_all]
          simp_arith [e1]
          have e2 : sitesD (pre.flatMap fun e => (ownW e.2).map fun x => (e.1, x)) ++ ((ownW e.2).map A.D.str).map (fun x => A.D.tup [pathD e.1, x]) = sitesD ((pre ++ [e]).flatMap fun e => (ownW e.2).map fun x => (e.1, x)) := by
            simp [sitesD, siteD, List.flatMap_append, Function.comp_def]
          rw [e2]
          refine ⟨big2 (by simp [sitesD] at L1 ⊢; omega), ?_⟩
          try rw [v_set_push]
          exact hF _ _ ⟨pre ++ [e], suf, _, _, _, he2, rfl, rfl, rfl⟩
  · intro ds S Q E h
    obtain ⟨x, rfl, r, d, rfl, hr, hd, q⟩ := opt_one h
    exact ⟨r, d, rfl, hr, hd, fun o T' ho h => ⟨T', _, rfl, frz_new ho h (by have := (sites_dt (d := d) (L := sitesP d) fun s hs => hs).1.1; simpa [isPd] using this), q⟩⟩
theorem d_woword {aE : Addr} (D : Dfn K mg "without_word" s_woword ["part", "word"] f fd) (T : Bn mg) (gEmpty : mg "EMPTY" = some (.ref aE)) (kEmpty : KDat K aE emptyD) (cHi : Fnc P w K mg base 1 "how_index" (upSp ⟨K, cA⟩ spHi)) (cWf : Fnc P w K mg base 1 "with_field" (upSp ⟨K, cA⟩ spWf)) : Fnc P w K mg base 2 "without_word" (upSp ⟨K, cA⟩ spWow) := by
  refine D.fnc (def_ok (k := 1) D.F sc_woword (fun cdv A outer s H E hr => (js_cons (js_if (jt_cmp (op_eqA K hr.units) os_eq (jv 1) j_str (nomark _))
      (js_one (js_ret (j_gdat (by rfl) gEmpty kEmpty)))
      js_nil)
    (js_cons (js_if (jt_cmp (op_eqA K hr.units) os_eq (jv 1) j_str (nomark _))
      (js_one (js_ret (j_fc cWf hr (by omega) rfl (L2N.passAt (L2N.takes_of rfl rfl rfl rfl)) (ja_cons (jv 0) (ja_cons j_int (ja_cons j_non ja_nil))))))
      js_nil)
    (js_one (js_ret (j_fc cWf hr (by omega) rfl (L2N.passAt (L2N.takes_of rfl rfl rfl rfl)) (ja_cons (jv 0) (ja_cons (j_fc cHi hr (by omega) rfl (L2N.passAt (L2N.takes_of rfl rfl rfl rfl)) (ja_cons (jv 0) ja_nil)) (ja_cons j_str ja_nil))))))))) ?_ ?_)
  · intro ds S Q E h
    obtain ⟨a, b, rfl, _⟩ := opt_two h
    rfl
  · intro ds S Q E h
    obtain ⟨q1, x2, rfl, q2, x, eq, hs, hx, q⟩ := opt_two h
    clear h
    cases eq
    by_cases z1 : x = "need"
    · subst z1
      rw [wo_need] at q
      simp_arith
      exact q
    · by_cases z2 : x = "ahead"
      · subst z2
        cases hs with
        | counted hm ha hb =>
          rw [wo_ahead] at q
          simp_arith [spWf]
          exact ⟨_, 3, _, rfl, by decide, by simp, by simp, q⟩
        | cell hc =>
          obtain ⟨_, _, hh⟩ := cell_parts hc
          rcases how_str hh with rfl | rfl <;> rw [own_cell] at hx <;> simp [ofString_inj] at hx
        | choice hm => rcases how_str hm with rfl | rfl <;> rw [own_choice] at hx <;> simp [ofString_inj] at hx
        | within hl => rcases how_str (limit_parts hl).1 with rfl | rfl <;> rw [own_within] at hx <;> simp [ofString_inj] at hx
        | pad _ _ ha => rcases how_str ha with rfl | rfl <;> rw [own_pad] at hx <;> simp [ofString_inj] at hx
        | need => rw [own_need] at hx; simp [ofString_inj] at hx
        | row => rw [own_row] at hx; simp at hx
        | times => rw [own_times] at hx; simp at hx
        | fill => rw [own_fill] at hx; simp at hx
        | ifleft => rw [own_ifleft] at hx; simp at hx
      · have hx0 : x = "look" := by
          unfold ownW ownL aheadW at hx
          revert hx
          repeat' split
          all_goals (intro hx; first | (simp at hx; done) | (simp at hx; exact hx) | (simp at hx; rcases hx with rfl | rfl <;> simp_all) | simp_all)
        subst hx0
        cases hs with
        | counted hm ha hb =>
          rw [wo_counted] at q
          simp_arith [spWf, spHi, hiO, kdOf, oI]
          exact ⟨.counted hm ha hb, _, 1, _, rfl, by decide, by simp <;> omega, by simp, q⟩
        | cell hc =>
          rw [wo_cell] at q
          simp_arith [spWf, spHi, hiO, kdOf, oI]
          exact ⟨.cell hc, _, 3, _, rfl, by decide, by simp, by simp, q⟩
        | choice hm ho =>
          rw [wo_choice] at q
          simp_arith [spWf, spHi, hiO, kdOf, oI]
          exact ⟨.choice hm ho, _, 1, _, rfl, by decide, by simp <;> omega, by simp, q⟩
        | within hl =>
          rw [wo_within] at q
          simp_arith [spWf, spHi, hiO, kdOf, oI]
          exact ⟨.within hl, _, 1, _, rfl, by decide, by simp <;> omega, by simp, q⟩
        | pad h0 h1 ha =>
          rw [wo_pad] at q
          simp_arith [spWf, spHi, hiO, kdOf, oI]
          exact ⟨.pad h0 h1 ha, _, 2, _, rfl, by decide, by simp, by simp, q⟩
        | need => rw [own_need] at hx; simp [ofString_inj] at hx
        | row => rw [own_row] at hx; simp at hx
        | times => rw [own_times] at hx; simp at hx
        | fill => rw [own_fill] at hx; simp at hx
        | ifleft => rw [own_ifleft] at hx; simp at hx
theorem d_haspath (D : Dfn K mg "has_path" s_haspath ["part", "path"] f fd) (T : Bn mg) (cB : Fnc P w K mg base 2 "is_between" (upSp ⟨K, cA⟩ spBetw)) (cSu : Fnc P w K mg base 9 "subparts" (upSp ⟨K, cA⟩ (spSub 8))) : Fnc P w K mg base 10 "has_path" (upSp ⟨K, cA⟩ spHp) := by
  refine D.fnc (def_ok (k := 9) D.F sc_haspath (fun cdv A outer s H E hr => (js_cons (js_if (JW.jt (jw_or (jt_not (jt_val (j_callB (kcall_isi K) cs_isi (by rfl) T.isinstance (by decide +kernel) (ja_cons (jv 1) (ja_cons (j_gty (T := "tuple") (by rfl) T.tuple (by decide +kernel)) ja_nil))))) (jw_or1 (jt_not (jt_val (j_callB (cr_all rfl) cs_all (by rfl) T.all (by decide +kernel) (ja_cons (j_lc (own := [("index", 4)]) (tt := aYes) (by rfl) sc_haspath.nd (gl_name (i := 4) (by decide)) (ji_seq (jv 1)) (blkOk_by (own := [("index", 4)]) (N := ["part", "path", "place", "inner", "index"]) (sc := defScope s_haspath) (by decide +kernel)) (fun _ _ _ _ _ => (pg_name (i := 4) sc_haspath.nd rfl (Or.inl rfl))) (fun _ _ _ _ _ => jts_nil) (fun _ _ _ _ _ => (j_fc cB hr (by omega) rfl (passN rfl rfl) (ja_cons (jv 4) (ja_cons j_int (ja_cons j_int ja_nil)))))) ja_nil)))))))
      (js_one (js_ret j_bl))
      js_nil)
    (js_one (js_ret (j_cmp (op_inDA K (u65 hr)) os_inD (jv 1) (j_lc (own := [("place", 2), ("inner", 3)]) (tt := aYes) (by rfl) sc_haspath.nd (gl_tup (m := 2) (gls_cons (gl_name (i := 2) (by decide)) (gls_cons (gl_name (i := 3) (by decide)) gls_nil))) (ji_seq (j_fc cSu hr (by omega) rfl (L2N.passAt (L2N.takes_of rfl rfl rfl rfl)) (ja_cons (jv 0) ja_nil))) (blkOk_by (own := [("place", 2), ("inner", 3)]) (N := ["part", "path", "place", "inner", "index"]) (sc := defScope s_haspath) (by decide +kernel)) (fun _ _ _ _ _ => (kpg_tup K (n := 2) rfl (pgs_cons (pg_name (i := 2) sc_haspath.nd rfl (Or.inl rfl)) (pgs_cons (pg_name (i := 3) sc_haspath.nd rfl (Or.inl rfl)) pgs_nil)))) (fun _ _ _ _ _ => jts_nil) (fun _ _ _ _ _ => (jv 2))) rfl))))) ?_ ?_)
  · intro ds S Q E h
    obtain ⟨a, b, rfl, _⟩ := opt_two h
    rfl
  · intro ds S Q E h
    obtain ⟨d, x2, rfl, d', ps, eq, hd, hp, hdt, hpl, q⟩ := opt_two h
    clear h
    cases eq
    have hlen : ps.length ≤ 1000000 := by omega
    refine seq_by fun N1 hN1 => ?_
    simp_arith
    refine lcX_map (fun _ => true) (fun x => .bl (isBetw 0 12 x)) hlen (fun x hx Y F hY _ => ?_) ?_
    · simp_arith [spBetw]
      exact ⟨isPds_mem hp x hx, 0, 12, rfl, hY rfl⟩
    · rw [filter_all]
      have e : ps.map (fun x => A.D.bl (isBetw 0 12 x)) = (ps.map (isBetw 0 12)).map A.D.bl := by simp
      rw [e]
      simp_arith [bools_map]
      have e2 : (ps.map (isBetw 0 12)).all id = ps.all (isBetw 0 12) := by simp [List.all_map]
      rw [e2]
      cases hb : ps.all (isBetw 0 12) with
      | false => rw [hb] at q; simp_arith; exact q
      | true =>
        rw [hb] at q
        simp_arith
        refine hN1 _ _ ?_
        simp_arith [spSub]
        have hc := hd.cnt
        refine ⟨hd.pw, hd.pd, by omega, ?_⟩
        try simp_arith
        have hl := sub_len hd.pw
        refine lcX_map (fun _ => true) (fun x => match x with | .tup [p, _] => p | d => d) (by simp; omega) (fun x hx Y F hY _ => ?_) ?_
        · obtain ⟨e, he, rfl⟩ := List.mem_map.mp hx
          have hY := hY rfl
          simp only [prP] at hY ⊢
          simp_arith
          exact hY
        · rw [filter_all]
          have e3 : ((subP 8 d).map prP).map (fun x => match x with | .tup [p, _] => p | d => d) = (subP 8 d).map fun e => pathD e.1 := by simp [prP, Function.comp_def]
          rw [e3]
          have dl : dat (.lst ((subP 8 d).map fun e => pathD e.1)) = true := ((Dt.lst (k := 1) fun x hx => by obtain ⟨e, _, rfl⟩ := List.mem_map.mp hx; exact path_dt).up (by decide)).dat
          simp_arith [dInD, dsv, hdt, dl]
          simpa [List.any_map, Function.comp_def] using q
end


/-! ### readers without some checks, walked -/
theorem okP_all {d : A.D} (h : Sm d) {p : List Int} (hp : okP d p) : (p.map A.D.int).all (isBetw 0 12) = true := by
  rw [List.all_eq_true]
  intro x hx
  obtain ⟨i, hi, rfl⟩ := List.mem_map.mp hx
  have := okP_betw h.pw hp i hi
  simp [isBetw, this]
theorem okP_any {d : A.D} (h : Sm d) {p : List Int} (hp : okP d p) : ((subP 8 d).any fun e => eqD (pathD e.1) (.tup (p.map A.D.int))) = true := by
  rw [List.any_eq_true]
  exact ⟨_, at_sub h.pw hp, by show eqD (pathD p) (pathD p) = true; rw [eq_path]; simp⟩
theorem ints_pds {p : List Int} : isPds (p.map A.D.int) = true := pds_of fun x hx => by obtain ⟨i, _, rfl⟩ := List.mem_map.mp hx; rfl
section
variable {P : Program} {w : World} {K : PySem.W.Frag} {cA : Str → Addr} {mg : Str → Option Value} {base : Heap} {f : Addr} {fd : FuncData} {n k : Nat}
theorem d_cksites (D : Dfn K mg "check_sites" s_cksites ["reader", "some"] f fd) (T : Bn mg) (xNoWord : XCls P K mg "NoWord" (cA "NoWord") "value") (pPart : Prp P w K mg base 1 (cA "Reader") "part" (upSp ⟨K, cA⟩ spRpart)) (cSi : Fnc P w K mg base 10 "sites" (upSp ⟨K, cA⟩ spSites)) (cHp : Fnc P w K mg base 10 "has_path" (upSp ⟨K, cA⟩ spHp)) : Fnc P w K mg base 11 "check_sites" (upSp ⟨K, cA⟩ spCks) := by
  refine D.fnc (def_ok (k := 10) D.F sc_cksites (fun cdv A outer s H E hr => (js_cons (js_set (i := 2) sc_cksites.nd rfl (Or.inl rfl) (j_fc cSi hr (by omega) rfl (L2N.passAt (L2N.takes_of rfl rfl rfl rfl)) (ja_cons (jv 0) ja_nil)))
    (js_one (js_for (vs := [0, 1, 2, 3]) (gl_name (i := 3) (by decide)) (passes_of rfl) rfl (ji_seq (jv 1)) (pg_name (i := 3) sc_cksites.nd rfl (Or.inl rfl))
      (js_one (js_if (JW.jt (jw_or (jt_cmp (op_notInDA K (u65 hr)) os_inD (jv 3) (jv 2) rfl) (jw_or1 (jt_not (jt_val (j_fc cHp hr (by omega) rfl (L2N.passAt (L2N.takes_of rfl rfl rfl rfl)) (ja_cons (j_pr (C := "Reader") pPart hr (by omega) (jv 0)) (ja_cons (j_ix (kix_lt K) os_ix (jv 3) j_int (fun _ _ => rfl)) ja_nil))))))))
        (js_one (js_raise (C := "NoWord") rfl xNoWord hr (L2N.takes_of rfl rfl rfl rfl) (ja_cons (jv 3) ja_nil)))
        js_nil)))))) ?_ ?_)
  · intro ds S Q E h
    obtain ⟨a, b, rfl, _⟩ := opt_two h
    rfl
  · intro ds S Q E h
    obtain ⟨x1, x2, rfl, r0, d, xs, eq, hr, hd, hh⟩ := opt_two h
    clear h
    cases eq
    have dk : dat (.lst (sitesD (sitesP d))) = true := ((sites_dt (d := d) fun s hs => hs).1.up (by decide)).dat
    have ck : ∀ x, dat x = true → dat (rd S x) = true → True := fun _ _ _ => trivial
    refine seq_by fun N1 hN1 => ?_
    simp_arith [spSites]
    refine ⟨r0, d, rfl, hr, hd, hN1 _ _ ?_⟩
    clear hN1
    simp_arith
    have good : ∀ (s : Site) (N : EndsA) (ρ : Ev), True := fun _ _ _ => trivial
    refine forX_by (fun r ρ S' => S' = S ∧ ∃ (ys : List A.D) (a : Option A.D), r = ys ∧ ρ = [some (.ref r0), some (.tup xs), some (.lst (sitesD (sitesP d))), a] ∧ ((∃ L, ys = sitesD L ∧ (∀ s ∈ L, s ∈ sitesP d) ∧ Q .non S) ∨ ∃ L b rest, ys = sitesD L ++ b :: rest ∧ (∀ s ∈ L, s ∈ sitesP d) ∧ BadS d b ∧ E ⟨"NoWord", ["value"], [b]⟩ S)) ?_ ?_ ⟨rfl, xs, none, rfl, rfl, hh⟩
    · rintro ρ S1 ⟨rfl, ys, a, rfl, rfl, h⟩
      rcases h with ⟨L, e, _, q⟩ | ⟨L, b, rest, e, _⟩
      · simp_arith
        exact q
      · simp at e
    · rintro y r2 ρ S1 ⟨rfl, ys, a, rfl, rfl, h⟩ F hF
      have step : ∀ (s : Site) (hs : s ∈ sitesP d) (hy : y = siteD s) (hnext : (∃ L, r2 = sitesD L ∧ (∀ s ∈ L, s ∈ sitesP d) ∧ Q .non S1) ∨ ∃ L b rest, r2 = sitesD L ++ b :: rest ∧ (∀ s ∈ L, s ∈ sitesP d) ∧ BadS d b ∧ E ⟨"NoWord", ["value"], [b]⟩ S1), y = siteD s ∧ s ∈ sitesP d := fun s hs hy _ => ⟨hy, hs⟩
      have fin : (∃ s ∈ sitesP d, y = siteD s ∧ ((∃ L, r2 = sitesD L ∧ (∀ s ∈ L, s ∈ sitesP d) ∧ Q .non S1) ∨ ∃ L b rest, r2 = sitesD L ++ b :: rest ∧ (∀ s ∈ L, s ∈ sitesP d) ∧ BadS d b ∧ E ⟨"NoWord", ["value"], [b]⟩ S1)) ∨ (BadS d y ∧ E ⟨"NoWord", ["value"], [y]⟩ S1) := by
        rcases h with ⟨L, e, hL, q⟩ | ⟨L, b, rest, e, hL, hb, q⟩
        · cases L with
          | nil => simp [sitesD] at e
          | cons s L =>
            simp only [sitesD, List.map_cons, List.cons.injEq] at e
            exact .inl ⟨s, hL s (by simp), e.1, .inl ⟨L, e.2, fun t ht => hL t (by simp [ht]), q⟩⟩
        · cases L with
          | nil =>
            simp only [sitesD, List.map_nil, List.nil_append, List.cons.injEq] at e
            obtain ⟨rfl, rfl⟩ := e
            exact .inr ⟨hb, q⟩
          | cons s L =>
            simp only [sitesD, List.map_cons, List.cons_append, List.cons.injEq] at e
            exact .inl ⟨s, hL s (by simp), e.1, .inr ⟨L, b, rest, e.2, fun t ht => hL t (by simp [ht]), hb, q⟩⟩
      rcases fin with ⟨s, hs, rfl, hn⟩ | ⟨hb, q⟩
      · have hS := (mem_sites hd.pw).mp hs
        have d1 : dat (siteD s) = true := ((site_dt (sites_ok hs)).up (by decide)).dat
        have a1 : ((sitesD (sitesP d)).any fun y => eqD y (siteD s)) = true := by rw [any_site]; simp [hs]
        have dp := path_dat (p := s.1)
        have pl := okP_len hd.pw hS.1
        simp only [siteD, pathD] at d1 a1 dp ⊢
        simp_arith [dInD, dsv, d1, dk, a1, rdr_get hr, spRpart, List.lookup, ofString_beq, spHp]
        refine ⟨d, _, rfl, hd, ints_pds, dp, by simp; omega, ?_⟩
        rw [okP_all hd hS.1, okP_any hd hS.1]
        simp_arith
        exact hF _ _ ⟨rfl, r2, _, rfl, rfl, hn⟩
      · obtain ⟨d1, hb⟩ := hb
        have hpd := (dat_iff d1).1
        have er : rd S1 y = y := by cases y <;> first | rfl | (simp [isPd] at hpd; done)
        simp_arith [dInD, dsv, er, d1, dk]
        have raise : E ⟨"NoWord", ["value"], [y]⟩ S1 := q
        cases ha : (sitesD (sitesP d)).any fun z => eqD z y with
        | false =>
          simp_arith
          exact q
        | true =>
          rcases hb with hb | ⟨ps, x, rfl, h1, h2, h3, h4⟩
          · exfalso
            rw [List.any_eq_true] at ha
            obtain ⟨z, hz, he⟩ := ha
            obtain ⟨s, hs, rfl⟩ := List.mem_map.mp hz
            rw [hb s hs] at he
            cases he
          · simp_arith [rdr_get hr, spRpart, List.lookup, ofString_beq, spHp]
            refine ⟨d, ps, rfl, hd, h2, h3, h4, ?_⟩
            rw [h1]
            simp_arith
            exact q
theorem d_without (F : FunG K "without" "without" s_without f fd) (hm : mg "without" = some (.ref f)) (hbn : ∀ (us rest : List Value), us.length = 1 → bindArgs fd ⟨us ++ rest, []⟩ = (newTuple rest >>= fun t => pure ((["reader"] : List Str).zip us ++ [(("left_out" : Str), t)])))
    (T : Bn mg) (mRd : Mkr P w K mg base 18 "Reader" (cA "Reader") (upSp ⟨K, cA⟩ spRinit)) (pPart : Prp P w K mg base 1 (cA "Reader") "part" (upSp ⟨K, cA⟩ spRpart)) (cSi : Fnc P w K mg base 10 "sites" (upSp ⟨K, cA⟩ spSites)) (cCk : Fnc P w K mg base 11 "check_sites" (upSp ⟨K, cA⟩ spCks))
    (cRp : Fnc P w K mg base 10 "replaced" (upSp ⟨K, cA⟩ (spRepl 8))) (cWw : Fnc P w K mg base 2 "without_word" (upSp ⟨K, cA⟩ spWow)) (cPa : Fnc P w K mg base 2 "part_at" (upSp ⟨K, cA⟩ (spPartAt 8))) : Fnc P w K mg base 20 "without" (upSp ⟨K, cA⟩ (starSp 1 spWo)) := by
  refine ⟨f, hm, F.kp, def_star (k := 19) (ps := ["reader"]) F sc_without hbn (fun cdv A outer s H E hr => (js_cons (js_expr (j_fc cCk hr (by omega) rfl (L2N.passAt (L2N.takes_of rfl rfl rfl rfl)) (ja_cons (jv 0) (ja_cons (jv 1) ja_nil))))
    (js_cons (js_set (i := 2) sc_without.nd rfl (Or.inl rfl) (j_fc cSi hr (by omega) rfl (L2N.passAt (L2N.takes_of rfl rfl rfl rfl)) (ja_cons (jv 0) ja_nil)))
    (js_cons (js_set (i := 3) sc_without.nd rfl (Or.inl rfl) (j_pr (C := "Reader") pPart hr (by omega) (jv 0)))
    (js_cons (js_for (vs := [0, 1, 2, 3, 4, 5]) (gl_tup (m := 2) (gls_cons (gl_name (i := 4) (by decide)) (gls_cons (gl_name (i := 5) (by decide)) gls_nil))) (passes_of rfl) rfl (ji_seq (jv 2)) (kpg_tup K (n := 2) rfl (pgs_cons (pg_name (i := 4) sc_without.nd rfl (Or.inl rfl)) (pgs_cons (pg_name (i := 5) sc_without.nd rfl (Or.inl rfl)) pgs_nil)))
      (js_one (js_if (jt_cmp (op_inDA K (u65 hr)) os_inD (j_tup (ja_cons (jv 4) (ja_cons (jv 5) ja_nil))) (jv 1) rfl)
        (js_one (js_set (i := 3) sc_without.nd rfl (Or.inl rfl) (j_fc cRp hr (by omega) rfl (L2N.passAt (L2N.takes_of rfl rfl rfl rfl)) (ja_cons (jv 3) (ja_cons (jv 4) (ja_cons (j_fc cWw hr (by omega) rfl (L2N.passAt (L2N.takes_of rfl rfl rfl rfl)) (ja_cons (j_fc cPa hr (by omega) rfl (L2N.passAt (L2N.takes_of rfl rfl rfl rfl)) (ja_cons (jv 3) (ja_cons (jv 4) ja_nil))) (ja_cons (jv 5) ja_nil))) ja_nil))))))
        js_nil)))
    (js_one (js_ret (j_nw (C := "Reader") mRd hr (by omega) rfl (L2N.passAt (L2N.takes_of rfl rfl rfl rfl)) (ja_cons (jv 3) ja_nil))))))))) ?_⟩
  intro ds S Q E h
  obtain ⟨x1, x2, rfl, r0, d, xs, eq, hr, hd, hh⟩ := opt_two h
  clear h
  cases eq
  refine seq_by fun N1 hN1 => ?_
  simp_arith [spCks]
  refine ⟨r0, d, xs, rfl, hr, hd, ?_⟩
  rcases hh with ⟨L, rfl, hL, q⟩ | ⟨L, b, rest, e, hL, hb, q⟩
  · refine .inl ⟨L, rfl, hL, hN1 _ _ (seq_by fun N2 hN2 => ?_)⟩
    clear hN1
    simp_arith [spSites]
    refine ⟨r0, d, rfl, hr, hd, hN2 _ _ (seq_by fun N3 hN3 => ?_)⟩
    clear hN2
    simp_arith [rdr_get hr, spRpart, List.lookup, ofString_beq]
    refine hN3 _ _ (seq_by fun N4 hN4 => ?_)
    clear hN3
    simp_arith [sitesD]
    have dl : dat (.tup (L.map siteD)) = true := ((sites_dt hL).2.up (by decide)).dat
    refine forX_by (fun r ρ S' => S' = S ∧ ∃ (pre suf : List Site) (a b : Option A.D), sitesP d = pre ++ suf ∧ r = suf.map siteD ∧ ρ = [some (.ref r0), some (.tup (L.map siteD)), some (.lst ((sitesP d).map siteD)), some (pre.foldl (woS L) d), a, b] ∧ WoI L d (pre.foldl (woS L) d) suf) ?_ ?_ ⟨rfl, [], _, _, _, rfl, rfl, rfl, wo_start hd⟩
    · rintro ρ S1 ⟨rfl, pre, suf, a, b, he, hs, rfl, hw⟩
      have hs : suf = [] := by simpa using hs.symm
      subst hs
      rw [List.append_nil] at he
      rw [← he] at hw ⊢
      refine hN4 _ _ ?_
      simp_arith
      refine rinit_by hw.sm.dt hw.sm.wp ?_
      exact q
    · rintro y r2 ρ S1 ⟨rfl, pre, suf, a, b, he, hs, rfl, hw⟩ F hF
      cases suf with
      | nil => simp at hs
      | cons s suf =>
        simp only [List.map_cons, List.cons.injEq] at hs
        obtain ⟨rfl, rfl⟩ := hs
        have hss : s ∈ sitesP d := by rw [he]; simp
        have hS := hw.suf s (by simp)
        have hn : (s :: suf).Nodup := by
          have := sites_nodup (d := d)
          rw [he] at this
          exact (List.nodup_append.mp this).2.1
        have hw2 := wo_step hw hn
        have e2 : sitesP d = (pre ++ [s]) ++ suf := by rw [he]; simp
        have e3 : (pre ++ [s]).foldl (woS L) d = woS L (pre.foldl (woS L) d) s := by rw [List.foldl_append]; rfl
        rw [← e3] at hw2
        have d1 : dat (siteD s) = true := ((site_dt (sites_ok hss)).up (by decide)).dat
        have a1 : ((L.map siteD).any fun y => eqD y (siteD s)) = decide (s ∈ L) := any_site
        generalize pre.foldl (woS L) d = cur at hw hS e3 ⊢
        simp only [siteD] at d1 a1 ⊢
        simp_arith [dInD, dsv, d1, dl, a1]
        by_cases z : s ∈ L
        · obtain ⟨m, hm⟩ := pw_at hw.sm.pw hS.1
          have hl := less_of hm hS.2
          rw [if_pos (by simpa using z)]
          simp_arith [spPartAt, spWow, spRepl]
          refine ⟨cur, s.1, rfl, hw.sm.pw, hS.1, ?_⟩
          try simp_arith
          refine ⟨_, s.2, rfl, hm.shp, hS.2, ?_⟩
          try simp_arith
          refine ⟨cur, s.1, _, rfl, hw.sm.pw, hw.sm.pd, hS.1, (dt_pw (pw_w hl.fw hm)).1, ?_⟩
          try simp_arith
          refine hF _ _ ⟨rfl, pre ++ [s], suf, some (pathD s.1), some (.str s.2), e2, rfl, ?_, hw2⟩
          rw [e3]
          simp [woS, z, lessD]
        · rw [if_neg (by simpa using z)]
          try simp_arith
          refine hF _ _ ⟨rfl, pre ++ [s], suf, some (pathD s.1), some (.str s.2), e2, rfl, ?_, hw2⟩
          rw [e3]
          simp [woS, z]
  · exact .inr ⟨L, b, rest, e, hL, hb, q⟩
end


/-! ### parts by their checks -/
section
variable {a : Str} {Y : A.D}
theorem fwi_cell {lo hi : A.D} (h : Fw (.tup [.str "cell", lo, hi, .str a]) Y) : ∃ b, Y = .tup [.str "cell", lo, hi, .str b] ∧ wkr a b := by
  generalize e : A.D.tup [.str "cell", lo, hi, .str a] = d at h
  cases h <;> simp [ofString_inj] at e
  obtain ⟨rfl, rfl, rfl⟩ := e
  exact ⟨_, rfl, by assumption⟩
theorem fwi_row {ps : List A.D} (h : Fw (.tup [.str "row", .tup ps]) Y) : ∃ qs, Y = .tup [.str "row", .tup qs] ∧ FwL ps qs := by
  generalize e : A.D.tup [.str "row", .tup ps] = d at h
  cases h <;> simp [ofString_inj] at e
  subst e
  exact ⟨_, rfl, by assumption⟩
theorem fwi_choice {ns : List Int} {ps : List A.D} (hn : ns.length = ps.length) (h : Fw (.tup [.str "choice", .str a, .tup (optsD ns ps)]) Y) : ∃ b qs, Y = .tup [.str "choice", .str b, .tup (optsD ns qs)] ∧ wkr a b ∧ FwL ps qs := by
  generalize e : A.D.tup [.str "choice", .str a, .tup (optsD ns ps)] = d at h
  cases h <;> simp [ofString_inj] at e
  rename_i a' b' ns' ps' qs' hw hl hk
  obtain ⟨rfl, e⟩ := e
  have e1 := congrArg (List.map optNum) e
  have e2 := congrArg (List.map optPart) e
  rw [opts_num hn, opts_num hl] at e1
  rw [opts_part hn, opts_part hl] at e2
  subst e1 e2
  exact ⟨_, _, rfl, hw, hk⟩
theorem fwi_times {m p : A.D} (h : Fw (.tup [.str "times", m, p]) Y) : ∃ q, Y = .tup [.str "times", m, q] ∧ Fw p q := by
  generalize e : A.D.tup [.str "times", m, p] = d at h
  cases h <;> simp [ofString_inj] at e
  obtain ⟨rfl, rfl⟩ := e
  exact ⟨_, rfl, by assumption⟩
theorem fwi_counted {m ah p : A.D} (h : Fw (.tup [.str "counted", .str a, m, ah, p]) Y) : ∃ b bh q, Y = .tup [.str "counted", .str b, m, bh, q] ∧ wkr a b ∧ (bh = ah ∨ bh = .non) ∧ Fw p q := by
  generalize e : A.D.tup [.str "counted", .str a, m, ah, p] = d at h
  cases h <;> simp [ofString_inj] at e
  obtain ⟨rfl, rfl, rfl, rfl⟩ := e
  exact ⟨_, _, _, rfl, by assumption, by assumption, by assumption⟩
theorem fwi_within {m l r p : A.D} (h : Fw (.tup [.str "within", .str a, m, l, r, p]) Y) : ∃ b q, Y = .tup [.str "within", .str b, m, l, r, q] ∧ wkr a b ∧ Fw p q := by
  generalize e : A.D.tup [.str "within", .str a, m, l, r, p] = d at h
  cases h <;> simp [ofString_inj] at e
  obtain ⟨rfl, rfl, rfl, rfl, rfl⟩ := e
  exact ⟨_, _, rfl, by assumption, by assumption⟩
theorem fwi_fill {p : A.D} (h : Fw (.tup [.str "fill", p]) Y) : ∃ q, Y = .tup [.str "fill", q] ∧ Fw p q := by
  generalize e : A.D.tup [.str "fill", p] = d at h
  cases h <;> simp [ofString_inj] at e
  subst e
  exact ⟨_, rfl, by assumption⟩
theorem fwi_ifleft {p : A.D} (h : Fw (.tup [.str "if left", p]) Y) : ∃ q, Y = .tup [.str "if left", q] ∧ Fw p q := by
  generalize e : A.D.tup [.str "if left", p] = d at h
  cases h <;> simp [ofString_inj] at e
  subst e
  exact ⟨_, rfl, by assumption⟩
theorem fwi_need {k : A.D} (h : Fw (.tup [.str "need", k]) Y) : Y = .tup [.str "need", k] ∨ Y = emptyD := by
  generalize e : A.D.tup [.str "need", k] = d at h
  cases h <;> simp [ofString_inj] at e
  · subst e; exact .inl rfl
  · subst e; exact .inr rfl
theorem fwi_pad {m : A.D} (h : Fw (.tup [.str "pad", m, .str a]) Y) : ∃ b, Y = .tup [.str "pad", m, .str b] ∧ wkr a b := by
  generalize e : A.D.tup [.str "pad", m, .str a] = d at h
  cases h <;> simp [ofString_inj] at e
  obtain ⟨rfl, rfl⟩ := e
  exact ⟨_, rfl, by assumption⟩
end
theorem wkr.trans {a b c : Str} (h : wkr a b) (k : wkr b c) : wkr a c := by
  rcases h with rfl | ⟨rfl, rfl⟩
  · exact k
  · rcases k with rfl | ⟨h, rfl⟩
    · exact .inr ⟨rfl, rfl⟩
    · exact .inr ⟨rfl, rfl⟩
mutual
theorem Fw.trans : ∀ {p q r : A.D}, Fw p q → Fw q r → Fw p r
  | _, _, _, .cell h, k => by obtain ⟨b, rfl, w⟩ := fwi_cell k; exact .cell (h.trans w)
  | _, _, _, .row h, k => by obtain ⟨b, rfl, w⟩ := fwi_row k; exact .row (h.trans w)
  | _, _, _, .choice h hl hk, k => by obtain ⟨b, qs, rfl, w, ws⟩ := fwi_choice (hl.trans hk.len) k; exact .choice (h.trans w) hl (hk.trans ws)
  | _, _, _, .times h, k => by obtain ⟨b, rfl, w⟩ := fwi_times k; exact .times (h.trans w)
  | _, _, _, .counted h ha hk, k => by
    obtain ⟨b, bh, q, rfl, w, wa, ws⟩ := fwi_counted k
    refine .counted (h.trans w) ?_ (hk.trans ws)
    rcases wa with rfl | rfl
    · exact ha
    · exact .inr rfl
  | _, _, _, .within h hk, k => by obtain ⟨b, q, rfl, w, ws⟩ := fwi_within k; exact .within (h.trans w) (hk.trans ws)
  | _, _, _, .fill h, k => by obtain ⟨b, rfl, w⟩ := fwi_fill k; exact .fill (h.trans w)
  | _, _, _, .ifleft h, k => by obtain ⟨b, rfl, w⟩ := fwi_ifleft k; exact .ifleft (h.trans w)
  | _, _, _, .need, k => k
  | _, _, _, .gone, k => by
    obtain ⟨qs, rfl, w⟩ := fwi_row k
    cases w
    exact .gone
  | _, _, _, .pad h, k => by obtain ⟨b, rfl, w⟩ := fwi_pad k; exact .pad (h.trans w)
theorem FwL.trans : ∀ {p q r : List A.D}, FwL p q → FwL q r → FwL p r
  | _, _, _, .nil, k => k
  | _, _, _, .cons h hs, k => by
    cases k with
    | cons k ks => exact .cons (h.trans k) (hs.trans ks)
end
theorem fw_kids {p q : A.D} (h : Fw p q) : FwL (kidsD p) (kidsD q) := by
  cases h with
  | cell => rw [kids_cell, kids_cell]; exact .nil
  | row hk => rw [kids_row, kids_row]; exact hk
  | choice hw hl hk => rw [kids_choice, kids_choice, opts_part hl, opts_part (hl.trans hk.len)]; exact hk
  | times hk => rw [kids_times, kids_times]; exact .cons hk .nil
  | counted _ _ hk => rw [kids_counted, kids_counted]; exact .cons hk .nil
  | within _ hk => rw [kids_within, kids_within]; exact .cons hk .nil
  | fill hk => rw [kids_fill, kids_fill]; exact .cons hk .nil
  | ifleft hk => rw [kids_ifleft, kids_ifleft]; exact .cons hk .nil
  | need => rw [kids_need]; exact .nil
  | gone => rw [kids_need, kids_row]; exact .nil
  | pad => rw [kids_pad, kids_pad]; exact .nil
theorem wkr_ck {a b : Str} (h : wkr a b) (hb : b = "checked") : a = "checked" := by
  rcases h with rfl | ⟨rfl, rfl⟩
  · exact hb
  · rfl
theorem mem_ck {b x : Str} : x ∈ (if b = "checked" then (["look"] : List Str) else []) ↔ b = "checked" ∧ x = "look" := by
  by_cases h : b = "checked" <;> simp [h]
theorem mem_ah {b : A.D} {x : Str} : x ∈ aheadW b ↔ b ≠ .non ∧ x = "ahead" := by
  cases b <;> simp [aheadW]
theorem fw_own {p q : A.D} {x : Str} (h : Fw p q) (hx : x ∈ ownW q) : x ∈ ownW p := by
  cases h with
  | cell hw => rw [own_cell, mem_ck] at hx ⊢; exact ⟨wkr_ck hw hx.1, hx.2⟩
  | row => rw [own_row] at hx; simp at hx
  | choice hw => rw [own_choice, mem_ck] at hx ⊢; exact ⟨wkr_ck hw hx.1, hx.2⟩
  | times => rw [own_times] at hx; simp at hx
  | counted hw ha =>
    rw [own_counted, List.mem_append, mem_ck, mem_ah] at hx ⊢
    rcases hx with hx | hx
    · exact .inl ⟨wkr_ck hw hx.1, hx.2⟩
    · rcases ha with rfl | rfl
      · exact .inr hx
      · exact absurd rfl hx.1
  | within hw => rw [own_within, mem_ck] at hx ⊢; exact ⟨wkr_ck hw hx.1, hx.2⟩
  | fill => rw [own_fill] at hx; simp at hx
  | ifleft => rw [own_ifleft] at hx; simp at hx
  | need => exact hx
  | gone => rw [own_row] at hx; simp at hx
  | pad hw => rw [own_pad, mem_ck] at hx ⊢; exact ⟨wkr_ck hw hx.1, hx.2⟩
theorem FwL.at : ∀ {ps qs : List A.D} {j : Nat} {p q : A.D}, FwL ps qs → ps[j]? = some p → qs[j]? = some q → Fw p q
  | _, _, _, _, _, .nil, h, _ => by simp at h
  | _, _, 0, _, _, .cons h hs, h1, h2 => by simp at h1 h2; subst h1 h2; exact h
  | _, _, j + 1, _, _, .cons h hs, h1, h2 => hs.at (j := j) (by simpa using h1) (by simpa using h2)
theorem fw_kid {p q : A.D} {i : Int} (h : Fw p q) (h0 : 0 ≤ i) (h1 : i < (kidsD p).length) : i < (kidsD q).length ∧ Fw (kidD p i) (kidD q i) := by
  have k := fw_kids h
  have hl := k.len
  exact ⟨by omega, k.at (kid_get h0 h1) (kid_get h0 (by omega))⟩
theorem fw_at : ∀ {t : List Int} {p q : A.D}, Fw p q → (okP q t ↔ okP p t) ∧ (okP p t → Fw (atP p t) (atP q t))
  | [], p, q, h => ⟨Iff.rfl, fun _ => h⟩
  | i :: t, p, q, h => by
    have hl := (fw_kids h).len
    refine ⟨⟨fun ⟨h0, h1, h2⟩ => ?_, fun ⟨h0, h1, h2⟩ => ?_⟩, fun ⟨h0, h1, h2⟩ => ?_⟩
    · have h1' : i < (kidsD p).length := by omega
      exact ⟨h0, h1', (fw_at (fw_kid h h0 h1').2).1.mp h2⟩
    · exact ⟨h0, (fw_kid h h0 h1).1, (fw_at (fw_kid h h0 h1).2).1.mpr h2⟩
    · exact (fw_at (fw_kid h h0 h1).2).2 h2
theorem has_w {p q : A.D} {t : Site} (h : Fw p q) (ht : HasS q t) : HasS p t := by
  obtain ⟨h1, h2⟩ := fw_at (t := t.1) h
  have o := h1.mp ht.1
  exact ⟨o, fw_own (h2 o) ht.2⟩
theorem less_iff {d : A.D} {n : Nat} (h : Pw n d) {s : Site} (hs : HasS d s) {t : Site} : HasS (lessD d s) t ↔ HasS d t ∧ t ≠ s := by
  obtain ⟨f1, f2, f3⟩ := less_step h hs
  exact ⟨fun ht => ⟨has_w f1 ht, fun e => f3 (e ▸ ht)⟩, fun ⟨a, b⟩ => f2 t a b⟩
theorem how_eq {a b c : Str} (h : wkr a b) (k : wkr a c) (e : b = "checked" ↔ c = "checked") : b = c := by
  rcases h with rfl | ⟨rfl, rfl⟩
  · rcases k with rfl | ⟨rfl, rfl⟩
    · rfl
    · exact (e.mp rfl).symm
  · rcases k with rfl | ⟨_, rfl⟩
    · exact e.mpr rfl
    · rfl
theorem ck_iff {b c : Str} (h : ∀ x : Str, x ∈ (if b = "checked" then (["look"] : List Str) else []) ↔ x ∈ (if c = "checked" then (["look"] : List Str) else [])) : b = "checked" ↔ c = "checked" := by
  have := h "look"
  rw [mem_ck, mem_ck] at this
  simpa using this
theorem fwL_ext : ∀ {ps qs rs : List A.D}, FwL ps qs → FwL ps rs → (∀ (j : Nat) (p q r : A.D), ps[j]? = some p → qs[j]? = some q → rs[j]? = some r → Fw p q → Fw p r → q = r) → qs = rs
  | _, _, _, .nil, .nil, _ => rfl
  | _, _, _, .cons h hs, .cons k ks, e => by
    rw [e 0 _ _ _ rfl rfl rfl h k, fwL_ext hs ks fun j p q r a b c => e (j + 1) p q r (by simpa using a) (by simpa using b) (by simpa using c)]
/-- two parts with the same checks of one part are the same -/
theorem fw_ext : ∀ {n : Nat} {d X Y : A.D}, Pw n d → Fw d X → Fw d Y → (∀ t : Site, HasS X t ↔ HasS Y t) → X = Y
  | 0, _, _, _, h, _, _, _ => by cases h
  | n + 1, d, X, Y, h, hX, hY, he => by
    have own : ∀ x, x ∈ ownW X ↔ x ∈ ownW Y := fun x => by
      have := he ([], x)
      simpa [HasS, okP, atP] using this
    have kx := fw_kids hX
    have ky := fw_kids hY
    have hk : kidsD X = kidsD Y := by
      refine fwL_ext kx ky fun j p q r e1 e2 e3 w1 w2 => ?_
      have hp : Pw n p := h.kid (List.mem_of_getElem? e1)
      refine fw_ext hp w1 w2 fun t => ?_
      have := he ((j : Int) :: t.1, t.2)
      have l2 := (List.getElem?_eq_some_iff.mp e2).1
      have l3 := (List.getElem?_eq_some_iff.mp e3).1
      have q2 : kidD X (j : Int) = q := by unfold kidD; rw [List.getD_eq_getElem?_getD, Int.toNat_natCast, e2]; rfl
      have q3 : kidD Y (j : Int) = r := by unfold kidD; rw [List.getD_eq_getElem?_getD, Int.toNat_natCast, e3]; rfl
      simp only [HasS, okP, atP, q2, q3] at this
      constructor
      · intro z
        have := this.mp ⟨⟨by omega, by omega, z.1⟩, z.2⟩
        exact ⟨this.1.2.2, this.2⟩
      · intro z
        have := this.mpr ⟨⟨by omega, by omega, z.1⟩, z.2⟩
        exact ⟨this.1.2.2, this.2⟩
    cases hX with
    | cell w =>
      obtain ⟨b, rfl, w2⟩ := fwi_cell hY
      simp only [own_cell] at own
      rw [how_eq w w2 (ck_iff own)]
    | row w =>
      obtain ⟨qs, rfl, w2⟩ := fwi_row hY
      rw [kids_row, kids_row] at hk
      rw [hk]
    | choice w hl ws =>
      obtain ⟨b, qs, rfl, w2, ws2⟩ := fwi_choice hl hY
      simp only [own_choice] at own
      rw [kids_choice, kids_choice, opts_part (hl.trans ws.len), opts_part (hl.trans ws2.len)] at hk
      rw [how_eq w w2 (ck_iff own), hk]
    | times w =>
      obtain ⟨q, rfl, w2⟩ := fwi_times hY
      rw [kids_times, kids_times] at hk
      rw [List.singleton_inj.mp hk]
    | counted w ha ws =>
      rename_i a0 b0 most0 ah0 bh0 p0 q0
      obtain ⟨b, bh, q, rfl, w2, wa, ws2⟩ := fwi_counted hY
      rw [kids_counted, kids_counted] at hk
      have e1 : b0 = "checked" ↔ b = "checked" := by
        have := own "look"
        rw [own_counted, own_counted, List.mem_append, List.mem_append, mem_ck, mem_ck, mem_ah, mem_ah] at this
        simpa [ofString_inj] using this
      have e2 := own "ahead"
      rw [own_counted, own_counted, List.mem_append, List.mem_append, mem_ck, mem_ck, mem_ah, mem_ah] at e2
      simp [ofString_inj] at e2
      rw [how_eq w w2 e1, List.singleton_inj.mp hk]
      have e3 : bh0 = .non ↔ bh = .non := ⟨fun z => Classical.not_not.mp fun y => e2.mpr y z, fun z => Classical.not_not.mp fun y => e2.mp y z⟩
      have e4 : bh0 = bh := by
        rcases ha with ha | ha
        · rcases wa with wa | wa
          · rw [ha, wa]
          · rw [wa, e3.mpr wa]
        · rw [ha, e3.mp ha]
      rw [e4]
    | within w ws =>
      obtain ⟨b, q, rfl, w2, ws2⟩ := fwi_within hY
      simp only [own_within] at own
      rw [kids_within, kids_within] at hk
      rw [how_eq w w2 (ck_iff own), List.singleton_inj.mp hk]
    | fill w =>
      obtain ⟨q, rfl, w2⟩ := fwi_fill hY
      rw [kids_fill, kids_fill] at hk
      rw [List.singleton_inj.mp hk]
    | ifleft w =>
      obtain ⟨q, rfl, w2⟩ := fwi_ifleft hY
      rw [kids_ifleft, kids_ifleft] at hk
      rw [List.singleton_inj.mp hk]
    | need =>
      rcases fwi_need hY with rfl | rfl
      · rfl
      · have := own "need"
        rw [own_need, show ownW emptyD = [] from own_row] at this
        simp at this
    | gone =>
      rcases fwi_need hY with rfl | rfl
      · have := own "need"
        rw [own_need, own_row] at this
        simp at this
      · rfl
    | pad w =>
      obtain ⟨b, rfl, w2⟩ := fwi_pad hY
      simp only [own_pad] at own
      rw [how_eq w w2 (ck_iff own)]
/-- the checks of what is left -/
structure WoE (L : List Site) (d cur : A.D) (done : List Site) : Prop where
  fw : Fw d cur
  has : ∀ t, HasS cur t ↔ HasS d t ∧ ¬ (t ∈ L ∧ t ∈ done)
theorem woe_fold {L : List Site} {d : A.D} (hd : Sm d) : ∀ {suf done : List Site} {cur : A.D}, sitesP d = done ++ suf → WoE L d cur done → WoE L d (suf.foldl (woS L) cur) (sitesP d)
  | [], done, cur, e, h => by rw [List.append_nil] at e; rw [e]; exact h
  | s :: suf, done, cur, e, h => by
    have hn : (done ++ s :: suf).Nodup := e ▸ sites_nodup
    have hs : s ∉ done := fun z => ((List.nodup_append.mp hn).2.2 s z s (by simp)) rfl
    have hsd : HasS d s := (mem_sites hd.pw).mp (by rw [e]; simp)
    have e2 : sitesP d = (done ++ [s]) ++ suf := by rw [e]; simp
    refine woe_fold hd (suf := suf) (done := done ++ [s]) (cur := woS L cur s) e2 ?_
    have hc : HasS cur s := (h.has s).mpr ⟨hsd, fun z => hs z.2⟩
    have hpw : Pw 8 cur := pw_w h.fw hd.pw
    unfold woS
    split
    · rename_i hL
      obtain ⟨f1, _, _⟩ := less_step hpw hc
      refine ⟨h.fw.trans f1, fun t => ?_⟩
      rw [less_iff hpw hc, h.has t, List.mem_append, List.mem_singleton]
      constructor
      · rintro ⟨⟨a, b⟩, c⟩
        exact ⟨a, fun ⟨z1, z2⟩ => z2.elim (fun z => b ⟨z1, z⟩) c⟩
      · rintro ⟨a, b⟩
        exact ⟨⟨a, fun ⟨z1, z2⟩ => b ⟨z1, .inl z2⟩⟩, fun z => b ⟨z ▸ hL, .inr z⟩⟩
    · rename_i hL
      refine ⟨h.fw, fun t => ?_⟩
      rw [h.has t, List.mem_append, List.mem_singleton]
      constructor
      · rintro ⟨a, b⟩
        exact ⟨a, fun ⟨z1, z2⟩ => z2.elim (fun z => b ⟨z1, z⟩) fun z => hL (z ▸ z1)⟩
      · rintro ⟨a, b⟩
        exact ⟨a, fun ⟨z1, z2⟩ => b ⟨z1, .inl z2⟩⟩
theorem wo_e {L : List Site} {d : A.D} (hd : Sm d) : Fw d (woP L d) ∧ ∀ t, HasS (woP L d) t ↔ HasS d t ∧ t ∉ L := by
  have := woe_fold (L := L) hd (suf := sitesP d) (done := []) (cur := d) rfl ⟨fw_refl hd.pw, fun t => by simp⟩
  refine ⟨this.fw, fun t => ?_⟩
  unfold woP
  rw [this.has t]
  constructor
  · rintro ⟨a, b⟩
    exact ⟨a, fun z => b ⟨z, (mem_sites hd.pw).mpr a⟩⟩
  · rintro ⟨a, b⟩
    exact ⟨a, fun z => b z.1⟩


/-! ### the law's own taking off -/
def lessK (F : A.D → Int → A.D) : Int → List A.D → List A.D
  | _, [] => []
  | i, c :: r => F c i :: lessK F (i + 1) r
def lessA (L : List Site) (p : List Int) (d : A.D) : A.D := if (p, ("look" : Str)) ∈ L then woW d "look" else d
def lessB (L : List Site) (p : List Int) (d : A.D) : A.D := if (p, ("ahead" : Str)) ∈ L then woW d "ahead" else d
def lessR (L : List Site) : Nat → A.D → List Int → A.D
  | 0, d, _ => d
  | n + 1, d, p => if (p, ("need" : Str)) ∈ L then emptyD else lessB L p (lessA L p (withK d (lessK (fun c i => lessR L n c (p ++ [i])) 0 (kidsD d))))
theorem lessK_len {F : A.D → Int → A.D} : ∀ {xs : List A.D} {i : Int}, (lessK F i xs).length = xs.length
  | [], _ => rfl
  | x :: xs, i => by simp [lessK, lessK_len (xs := xs)]
theorem lessK_get {F : A.D → Int → A.D} : ∀ {xs : List A.D} {i : Int} {j : Nat}, (lessK F i xs)[j]? = xs[j]?.map fun c => F c (i + j)
  | [], _, _ => by simp [lessK]
  | x :: xs, i, 0 => by simp [lessK]
  | x :: xs, i, j + 1 => by
    simp only [lessK, List.getElem?_cons_succ]
    rw [lessK_get (xs := xs) (i := i + 1) (j := j)]
    rw [show i + 1 + (j : Int) = i + ((j + 1 : Nat) : Int) by omega]
theorem fwL_of : ∀ {ps qs : List A.D}, ps.length = qs.length → (∀ (j : Nat) (p q : A.D), ps[j]? = some p → qs[j]? = some q → Fw p q) → FwL ps qs
  | [], [], _, _ => .nil
  | p :: ps, q :: qs, hl, h => .cons (h 0 p q rfl rfl) (fwL_of (by simpa using hl) fun j a b e f => h (j + 1) a b (by simpa using e) (by simpa using f))
theorem own_words {d : A.D} {x : Str} (h : x ∈ ownW d) : x = "look" ∨ x = "ahead" ∨ x = "need" := by
  unfold ownW ownL aheadW at h
  revert h
  repeat' split
  all_goals (intro h; first | (simp at h; done) | (simp at h; simp [h]) | (simp at h; rcases h with rfl | rfl <;> simp))
theorem need_of {d : A.D} (hs : Shp d) (h : ("need" : Str) ∈ ownW d) : ∃ k, d = .tup [.str "need", .int k] := by
  cases hs with
  | need => exact ⟨_, rfl⟩
  | cell hc =>
    obtain ⟨_, _, hh⟩ := cell_parts hc
    rcases how_str hh with rfl | rfl <;> rw [own_cell, mem_ck] at h <;> simp [ofString_inj] at h
  | choice hm => rcases how_str hm with rfl | rfl <;> rw [own_choice, mem_ck] at h <;> simp [ofString_inj] at h
  | counted hm => rcases how_str hm with rfl | rfl <;> rw [own_counted, List.mem_append, mem_ck, mem_ah] at h <;> simp [ofString_inj] at h
  | within hl => rcases how_str (limit_parts hl).1 with rfl | rfl <;> rw [own_within, mem_ck] at h <;> simp [ofString_inj] at h
  | pad _ _ ha => rcases how_str ha with rfl | rfl <;> rw [own_pad, mem_ck] at h <;> simp [ofString_inj] at h
  | row => rw [own_row] at h; simp at h
  | times => rw [own_times] at h; simp at h
  | fill => rw [own_fill] at h; simp at h
  | ifleft => rw [own_ifleft] at h; simp at h
theorem lessD_nil {d : A.D} {x : Str} : lessD d ([], x) = woW d x := rfl
def LessOk (L : List Site) (d : A.D) (p : List Int) : Prop := ∀ (q : List Int) (x : Str), (p ++ q, x) ∈ L → HasS d (q, x)
theorem has_nil {d : A.D} {x : Str} : HasS d ([], x) ↔ x ∈ ownW d := by simp [HasS, okP, atP]
theorem has_cons {d : A.D} {i : Int} {q : List Int} {x : Str} : HasS d (i :: q, x) ↔ (0 ≤ i ∧ i < (kidsD d).length) ∧ HasS (kidD d i) (q, x) := by
  simp only [HasS, okP, atP]
  exact ⟨fun ⟨⟨a, b, c⟩, e⟩ => ⟨⟨a, b⟩, c, e⟩, fun ⟨⟨a, b⟩, c, e⟩ => ⟨⟨a, b, c⟩, e⟩⟩
/-- one word taken off, or not, at the part itself -/
theorem less_at {L : List Site} {d : A.D} {p : List Int} {n : Nat} {x : Str} (h : Pw n d) (ho : (p, x) ∈ L → x ∈ ownW d) :
    Fw d (if (p, x) ∈ L then woW d x else d) ∧ ∀ t : Site, HasS (if (p, x) ∈ L then woW d x else d) t ↔ HasS d t ∧ ¬ (t = ([], x) ∧ (p, x) ∈ L) := by
  split
  · rename_i hL
    have hs : HasS d ([], x) := has_nil.mpr (ho hL)
    obtain ⟨f1, _, _⟩ := less_step h hs
    rw [lessD_nil] at f1
    refine ⟨f1, fun t => ?_⟩
    have := less_iff h hs (t := t)
    rw [lessD_nil] at this
    rw [this]
    exact ⟨fun ⟨a, b⟩ => ⟨a, fun z => b z.1⟩, fun ⟨a, b⟩ => ⟨a, fun z => b ⟨z, hL⟩⟩⟩
  · rename_i hL
    exact ⟨fw_refl h, fun t => by simp [hL]⟩
theorem lessR_spec {L : List Site} : ∀ {n : Nat} {d : A.D} {p : List Int}, Pw n d → LessOk L d p → Fw d (lessR L n d p) ∧ ∀ t : Site, HasS (lessR L n d p) t ↔ HasS d t ∧ (p ++ t.1, t.2) ∉ L
  | 0, _, _, h, _ => by cases h
  | n + 1, d, p, h, ho => by
    have ho0 : ∀ {x : Str}, (p, x) ∈ L → x ∈ ownW d := fun {x} hx => has_nil.mp (ho [] x (by simpa using hx))
    unfold lessR
    split
    · rename_i hL
      obtain ⟨k, rfl⟩ := need_of h.shp (ho0 hL)
      refine ⟨.gone, fun t => ?_⟩
      obtain ⟨q, x⟩ := t
      cases q with
      | nil =>
        rw [has_nil, has_nil, own_need, show ownW emptyD = [] from own_row]
        simp
        rintro rfl
        simpa using hL
      | cons i q =>
        rw [has_cons, has_cons, kids_need, show kidsD emptyD = [] from kids_row]
        exact ⟨fun ⟨⟨a, b⟩, _⟩ => by simp at b; omega, fun ⟨⟨⟨a, b⟩, _⟩, _⟩ => by simp at b; omega⟩
    · rename_i hN
      have kid : ∀ {i : Int}, 0 ≤ i → i < (kidsD d).length → Fw (kidD d i) (lessR L n (kidD d i) (p ++ [i])) ∧ ∀ t : Site, HasS (lessR L n (kidD d i) (p ++ [i])) t ↔ HasS (kidD d i) t ∧ (p ++ i :: t.1, t.2) ∉ L := fun {i} h0 h1 => by
        have := lessR_spec (L := L) (p := p ++ [i]) (h.kid (kid_mem h0 h1)) fun q x hq => by
          have := ho (i :: q) x (by simpa using hq)
          exact (has_cons.mp this).2
        simpa using this
      have hlen : (lessK (fun c i => lessR L n c (p ++ [i])) 0 (kidsD d)).length = (kidsD d).length := lessK_len
      have hget : ∀ {i : Int}, 0 ≤ i → i < (kidsD d).length → (lessK (fun c i => lessR L n c (p ++ [i])) 0 (kidsD d))[i.toNat]? = some (lessR L n (kidD d i) (p ++ [i])) := fun {i} h0 h1 => by
        rw [lessK_get, kid_get h0 h1]
        simp
        rw [show max i 0 = i by omega]
      generalize lessK (fun c i => lessR L n c (p ++ [i])) 0 (kidsD d) = ks at hlen hget ⊢
      have f1 : Fw d (withK d ks) := fw_withK h.shp (fwL_of hlen.symm fun j a b e1 e2 => by
        have hj := (List.getElem?_eq_some_iff.mp e1).1
        have g := hget (i := (j : Int)) (by omega) (by omega)
        rw [Int.toNat_natCast, e2] at g
        cases g
        have ek : kidD d (j : Int) = a := by unfold kidD; rw [List.getD_eq_getElem?_getD, Int.toNat_natCast, e1]; rfl
        have := (kid (i := (j : Int)) (by omega) (by omega)).1
        rw [ek] at this ⊢
        exact this)
      have p1 := pw_w f1 h
      have kk := kids_withK h.shp hlen
      have ow := own_withK h.shp hlen
      have h1 : ∀ t : Site, HasS (withK d ks) t ↔ HasS d t ∧ (t.1 = [] ∨ (p ++ t.1, t.2) ∉ L) := fun t => by
        obtain ⟨q, x⟩ := t
        cases q with
        | nil => rw [has_nil, has_nil, ow]; simp
        | cons i q =>
          rw [has_cons, has_cons, kk, hlen]
          constructor
          · rintro ⟨⟨a, b⟩, c⟩
            have ek : kidD (withK d ks) i = lessR L n (kidD d i) (p ++ [i]) := by
              show (kidsD (withK d ks)).getD i.toNat .non = _
              rw [kk, List.getD_eq_getElem?_getD, hget a b]; rfl
            rw [ek] at c
            have := ((kid a b).2 (q, x)).mp c
            exact ⟨⟨⟨a, b⟩, this.1⟩, .inr this.2⟩
          · rintro ⟨⟨⟨a, b⟩, c⟩, e⟩
            have ek : kidD (withK d ks) i = lessR L n (kidD d i) (p ++ [i]) := by
              show (kidsD (withK d ks)).getD i.toNat .non = _
              rw [kk, List.getD_eq_getElem?_getD, hget a b]; rfl
            rw [ek]
            refine ⟨⟨a, b⟩, ((kid a b).2 (q, x)).mpr ⟨c, ?_⟩⟩
            rcases e with e | e
            · cases e
            · exact e
      generalize withK d ks = d1 at f1 p1 h1 ow ⊢
      obtain ⟨fa, ha⟩ := less_at (L := L) (p := p) (x := "look") p1 (fun z => by rw [ow]; exact ho0 z)
      have eA : lessA L p d1 = if (p, ("look" : Str)) ∈ L then woW d1 "look" else d1 := rfl
      rw [← eA] at fa ha
      have p2 := pw_w fa p1
      have oa : (p, ("ahead" : Str)) ∈ L → ("ahead" : Str) ∈ ownW (lessA L p d1) := fun z => by
        refine has_nil.mp ((ha _).mpr ⟨has_nil.mpr (by rw [ow]; exact ho0 z), fun y => ?_⟩)
        simp [ofString_inj] at y
      obtain ⟨fb, hb⟩ := less_at (L := L) (p := p) (x := "ahead") p2 oa
      refine ⟨(f1.trans fa).trans fb, fun t => ?_⟩
      show HasS (if (p, ("ahead" : Str)) ∈ L then woW (lessA L p d1) "ahead" else lessA L p d1) t ↔ _
      rw [hb t, ha t, h1 t]
      obtain ⟨q, x⟩ := t
      constructor
      · rintro ⟨⟨⟨a, b⟩, c⟩, e⟩
        refine ⟨a, fun z => ?_⟩
        rcases b with b | b
        · have b : q = [] := b
          subst b
          have z : (p, x) ∈ L := by simpa using z
          rcases own_words (has_nil.mp a) with rfl | rfl | rfl
          · exact c ⟨rfl, z⟩
          · exact e ⟨rfl, z⟩
          · exact hN z
        · exact b z
      · rintro ⟨a, b⟩
        refine ⟨⟨⟨a, .inr b⟩, fun z => b ?_⟩, fun z => b ?_⟩
        · rw [z.1]; simpa using z.2
        · rw [z.1]; simpa using z.2
/-- without = the law's own taking off -/
theorem wo_less {L : List Site} {d : A.D} (h : Sm d) (hL : ∀ s ∈ L, s ∈ sitesP d) : woP L d = lessR L 8 d [] := by
  obtain ⟨f1, h1⟩ := wo_e (L := L) h
  obtain ⟨f2, h2⟩ := lessR_spec (L := L) (p := []) h.pw fun q x hq => (mem_sites h.pw).mp (hL _ (by simpa using hq))
  refine fw_ext h.pw f1 f2 fun t => ?_
  rw [h1 t, h2 t]
  simp
theorem less_sm {L : List Site} {d : A.D} (h : Sm d) (hL : ∀ s ∈ L, s ∈ sitesP d) : Sm (lessR L 8 d []) := by rw [← wo_less h hL]; exact wo_sm h
/-- no check is left -/
theorem wo_none {d : A.D} (h : Sm d) : sitesP (woP (sitesP d) d) = [] := by
  obtain ⟨f1, h1⟩ := wo_e (L := sitesP d) h
  rw [List.eq_nil_iff_forall_not_mem]
  intro s hs
  have := (h1 s).mp ((mem_sites (h.w f1).pw).mp hs)
  exact this.2 ((mem_sites h.pw).mpr this.1)


/-! ### the law's own checks -/
abbrev s_lchecks : Stmt := (topS 75)
theorem sc_lchecks : FnScope ["part", "path", "found", "place", "inner", "at"] ["part", "path"] (defScope s_lchecks) := ⟨rfl, rfl, rfl, by decide +kernel, rfl, by decide +kernel, by decide +kernel⟩
abbrev s_lfield : Stmt := (topS 76)
theorem sc_lfield : FnScope ["part", "place", "value"] ["part", "place", "value"] (defScope s_lfield) := ⟨rfl, rfl, rfl, by decide +kernel, rfl, by decide +kernel, by decide +kernel⟩
def siteQ (n : Nat) (d : A.D) (p : List Int) : List Site := (subP n d).flatMap fun e => (ownW e.2).map fun x => (p ++ e.1, x)
def siteKs (n : Nat) (p : List Int) : Int → List A.D → List Site
  | _, [] => []
  | i, c :: r => siteQ n c (p ++ [i]) ++ siteKs n p (i + 1) r
theorem siteKs_app {n : Nat} {p : List Int} : ∀ {xs ys : List A.D} {i : Int}, siteKs n p i (xs ++ ys) = siteKs n p i xs ++ siteKs n p (i + xs.length) ys
  | [], ys, i => by simp [siteKs]
  | x :: xs, ys, i => by
    simp only [List.cons_append, siteKs, siteKs_app (xs := xs), List.append_assoc, List.length_cons]
    rw [show i + 1 + (xs.length : Int) = i + ((xs.length + 1 : Nat) : Int) by omega]
theorem siteKs_sub {n : Nat} {p : List Int} : ∀ {xs : List A.D} {i : Int}, ((subK (subP n) i xs).flatMap fun e => (ownW e.2).map fun x => (p ++ e.1, x)) = siteKs n p i xs
  | [], _ => rfl
  | x :: xs, i => by
    simp only [subK, List.flatMap_append, siteKs, siteKs_sub (xs := xs), siteQ]
    congr 1
    rw [List.flatMap_map]
    simp [List.append_assoc]
theorem siteQ_eq {n : Nat} {d : A.D} {p : List Int} : siteQ (n + 1) d p = (ownW d).map (fun x => (p, x)) ++ siteKs n p 0 (kidsD d) := by
  unfold siteQ
  simp only [subP, List.flatMap_cons, List.append_nil]
  rw [siteKs_sub]
theorem siteQ_len {n : Nat} {d : A.D} {p : List Int} (h : Pw n d) : ((siteQ n d p).length : Int) ≤ 2 * countP d := by
  have h1 := sub_len h
  have key : ∀ {es : List (List Int × A.D)}, (es.flatMap fun e => (ownW e.2).map fun x => (p ++ e.1, x)).length ≤ 2 * es.length := by
    intro es
    induction es with
    | nil => simp
    | cons e es ih =>
      have := (own_nodup e.2).2
      rw [List.flatMap_cons, List.length_append, List.length_map, List.length_cons]
      omega
  have := key (es := subP n d)
  unfold siteQ
  omega
theorem siteQ_nil {d : A.D} : siteQ 8 d [] = sitesP d := by simp [siteQ, sitesP]
theorem siteQ_ok {n : Nat} {d : A.D} {p : List Int} : ∀ s ∈ siteQ n d p, PyData.strOk s.2 = true := by
  intro s hs
  unfold siteQ at hs
  obtain ⟨e, _, h⟩ := List.mem_flatMap.mp hs
  obtain ⟨x, hx, rfl⟩ := List.mem_map.mp h
  exact own_mem hx
theorem sitesD_pd {L : List Site} : isPds (sitesD L) = true := pds_of fun x hx => by
  obtain ⟨s, _, rfl⟩ := List.mem_map.mp hx
  simp [siteD, isPd, isPds, path_pd]
/-- a list, changing or not -/
def FndIs (S : Sto) (f : A.D) (xs : List A.D) : Prop := f = .lst xs ∨ ∃ o, f = .ref o ∧ S[o]? = some (.lst xs)
theorem fnd_add {S : Sto} {f : A.D} {xs ys : List A.D} {Q : QD} (h : FndIs S f xs) (hl : xs.length + ys.length ≤ 1000000) (q : Q (.lst (xs ++ ys)) S) : dAdd f (.lst ys) S Q := by
  rcases h with rfl | ⟨o, rfl, h⟩
  · exact ⟨big2 hl, q⟩
  · rw [v_dAdd_ref, lstAt_of h]
    exact ⟨big2 hl, q⟩
theorem seq5_by {a b c d e t : AS} {De : EndsA} {ρ : Ev} {S : Sto} (h : ∀ N : Ev → Sto → Prop, (∀ ρ S, t De ρ S → N ρ S) → sSeq a (sSeq b (sSeq c (sSeq d e))) { De with nx := N } ρ S) : sSeq a (sSeq b (sSeq c (sSeq d (sSeq e t)))) De ρ S := h _ fun _ _ z => z
theorem v_set_push2 {S : Sto} {a b c : O} : (S ++ [a] ++ [b]).set S.length c = S ++ [c] ++ [b] := by simp
theorem v_lst_push2 {S : Sto} {xs : List A.D} {b : O} : lstAt (S ++ [.lst xs] ++ [b]) S.length = some xs := lstAt_of (by simp)
def spChk (n : Nat) : ASp := fun ds S Q _ => opt (two2 ds) fun e => ∃ d p, e = (d, pathD p) ∧ Pw n d ∧ countP d ≤ 1000 ∧ p.length + n ≤ 100 ∧ Q (.lst (sitesD (siteQ n d p))) S
def spChkI (n : Nat) : ASp := fun ds S Q _ => opt (two2 ds) fun e => ∃ d p, e = (d, pathD p) ∧ Pw n d ∧ countP d ≤ 1000 ∧ p.length + n ≤ 100 ∧ ∀ f T, FndIs (S ++ T) f (sitesD (siteQ n d p)) → (∀ o, f = .ref o → S.length ≤ o) → Q f (S ++ T)
section
variable {P : Program} {w : World} {K : PySem.W.Frag} {cA : Str → Addr} {mg : Str → Option Value} {base : Heap} {f : Addr} {fd : FuncData} {n k : Nat}
theorem d_lfield (D : Dfn K mg "_law_field" s_lfield ["part", "place", "value"] f fd) (T : Bn mg) : Fnc P w K mg base 1 "_law_field" (upSp ⟨K, cA⟩ spWf) := by
  refine D.fnc (def_ok (k := 0) D.F sc_lfield (fun cdv A outer s H E hr => (js_one (js_ret (j_op (op_addA K) os_add (j_op (op_addA K) os_add (j_sl (jv 0) jo_none (jo_some (jv 1))) (j_tup (ja_cons (jv 2) ja_nil))) (j_sl (jv 0) (jo_some (j_op (op_addA K) os_add (jv 1) j_int)) jo_none))))) ?_ ?_)
  · intro ds S Q E h
    obtain ⟨a, b, c, rfl, _⟩ := opt_three h
    rfl
  · intro ds S Q E h
    obtain ⟨x1, x2, v, rfl, xs, i, v', eq, h0, h1, hl, q⟩ := opt_three h
    clear h
    cases eq
    simp_arith
    have e : xs.take i.toNat ++ [v] ++ xs.drop (i + 1).toNat = xs.set i.toNat v := by
      rw [List.set_eq_take_append_cons_drop, if_pos (by omega), show (i + 1).toNat = i.toNat + 1 by omega]
      simp
    rw [cut_to h0, cut_from (by omega), e]
    exact ⟨big2 (by simp; omega), big2 (by simp; omega), q⟩
theorem d_lchecks (D : Dfn K mg "_law_checks" s_lchecks ["part", "path"] f fd) (T : Bn mg) (cC : Fnc P w K mg base 1 "_law_children" (upSp ⟨K, cA⟩ spKids)) (cCh : Fnc P w K mg base (n + 1) "_law_checks" (upSp ⟨K, cA⟩ (spChk n))) : Fnc P w K mg base (n + 2) "_law_checks" (upSp ⟨K, cA⟩ (spChk (n + 1))) := by
  refine Fnc.pure (sp := spChkI (n + 1)) (D.fnc (def_ok (k := n + 1) D.F sc_lchecks (fun cdv A outer s H E hr => (js_cons (js_set (i := 2) sc_lchecks.nd rfl (Or.inl rfl) (j_lstM ja_nil))
    (js_cons (js_set (i := 3) sc_lchecks.nd rfl (Or.inl rfl) (j_dgetM (u1 hr) (j_disp (.cons j_int (.cons j_int (.cons j_int (.cons j_int (.cons j_int .nil))))) rfl rfl (List.cons_ne_nil _ _) (Nat.le_of_ble_eq_true rfl)) (j_ix (kix_lt K) os_ix (jv 0) j_int (fun _ _ => rfl)) ⟨rfl, rfl, rfl, rfl⟩))
    (js_cons (js_if (JW.jt (jw_and (jt_cmp op_notN os_isnt (jv 3) j_non (nomark _)) (jw_and1 (jt_cmp (op_eqA K hr.units) os_eq (j_ix (kix_lt K) os_ix (jv 0) (jv 3) (fun _ _ => rfl)) j_str (nomark _)))))
      (js_one (js_expr (j_append (jv 2) (ja_cons (j_tup (ja_cons (jv 1) (ja_cons j_str ja_nil))) ja_nil))))
      js_nil)
    (js_cons (js_if (JW.jt (jw_and (jt_cmp (op_eqA K hr.units) os_eq (j_ix (kix_lt K) os_ix (jv 0) j_int (fun _ _ => rfl)) j_str (nomark _)) (jw_and1 (jt_cmp op_notN os_isnt (j_ix (kix_lt K) os_ix (jv 0) j_int (fun _ _ => rfl)) j_non (nomark _)))))
      (js_one (js_expr (j_append (jv 2) (ja_cons (j_tup (ja_cons (jv 1) (ja_cons j_str ja_nil))) ja_nil))))
      js_nil)
    (js_cons (js_if (jt_cmp (op_eqA K hr.units) os_eq (j_ix (kix_lt K) os_ix (jv 0) j_int (fun _ _ => rfl)) j_str (nomark _))
      (js_one (js_expr (j_append (jv 2) (ja_cons (j_tup (ja_cons (jv 1) (ja_cons j_str ja_nil))) ja_nil))))
      js_nil)
    (js_cons (js_set (i := 4) sc_lchecks.nd rfl (Or.inl rfl) (j_fc cC hr (by omega) rfl (L2N.passAt (L2N.takes_of rfl rfl rfl rfl)) (ja_cons (jv 0) ja_nil)))
    (js_cons (js_for (vs := [0, 1, 2, 3, 4, 5]) (gl_name (i := 5) (by decide)) (passes_of rfl) rfl (ji_range1 rfl T.range (ja_cons (j_callB (kcall_len_seq K) cs_len (by rfl) T.len (by decide +kernel) (ja_cons (jv 4) ja_nil)) ja_nil)) (pg_name (i := 5) sc_lchecks.nd rfl (Or.inl rfl))
      (js_one (js_set (i := 2) sc_lchecks.nd rfl (Or.inl rfl) (j_op (op_addA K) os_add (jv 2) (j_fc cCh hr (by omega) rfl (L2N.passAt (L2N.takes_of rfl rfl rfl rfl)) (ja_cons (j_ix (kix_lt K) os_ix (jv 4) (jv 5) (fun _ _ => rfl)) (ja_cons (j_op (op_addA K) os_add (jv 1) (j_tup (ja_cons (jv 5) ja_nil))) ja_nil)))))))
    (js_one (js_ret (jv 2))))))))))) ?_ ?_)) ?_
  · intro ds S Q E h
    obtain ⟨a, b, rfl, _⟩ := opt_two h
    rfl
  · intro ds S Q E h
    obtain ⟨d, x2, rfl, d', p, eq, hw, hc, hp, q⟩ := opt_two h
    clear h
    cases eq
    refine seq5_by fun N5 hN5 => ?_
    have hlen : ∀ j, j ≤ (kidsD d).length → ((ownW d).map (fun x => (p, x)) ++ siteKs n p 0 ((kidsD d).take j)).length ≤ 2000 := by
      intro j hj
      have h1 := siteQ_len (p := p) hw
      have h2 : siteKs n p 0 (kidsD d) = siteKs n p 0 ((kidsD d).take j) ++ siteKs n p (0 + ((kidsD d).take j).length) ((kidsD d).drop j) := by rw [← siteKs_app, List.take_append_drop]
      rw [siteQ_eq, h2] at h1
      simp only [List.length_append] at h1 ⊢
      omega
    -- behind the part's own checks
    have rest : ∀ (o : Nat) (T : Sto) (a : _), S.length ≤ o → (S ++ T)[o]? = some (.lst (sitesD ((ownW d).map fun x => (p, x)))) → N5 [some d, some (pathD p), some (.ref o), a, none, none] (S ++ T) := by
      intro o T a ho hf
      refine hN5 _ _ (seq_by fun N6 hN6 => ?_)
      clear hN5
      simp_arith [spKids]
      refine ⟨hw.shp, hN6 _ _ (seq_by fun N7 hN7 => ?_)⟩
      clear hN6
      have kl := kids_len hw.shp
      simp_arith
      refine ⟨⟨by omega, by omega⟩, ?_⟩
      refine forX_by (fun r ρ S' => S' = S ++ T ∧ ∃ (j : Nat) (f y : _), r = rng (j : Int) ((kidsD d).length - j) ∧ j ≤ (kidsD d).length ∧ ρ = [some d, some (pathD p), some f, a, some (.lst (kidsD d)), y] ∧ FndIs (S ++ T) f (sitesD ((ownW d).map (fun x => (p, x)) ++ siteKs n p 0 ((kidsD d).take j))) ∧ ∀ o, f = .ref o → S.length ≤ o) ?_ ?_ ⟨rfl, 0, .ref o, none, by simp, Nat.zero_le _, rfl, .inr ⟨o, rfl, by simpa [siteKs] using hf⟩, fun o' e => by cases e; exact ho⟩
      · rintro ρ S1 ⟨rfl, j, f, y, hr, hj, rfl, hf, ho⟩
        have hj' : j = (kidsD d).length := by
          have := congrArg List.length hr
          simp [rng] at this
          omega
        subst hj'
        refine hN7 _ _ ?_
        simp_arith
        rw [List.take_length, ← siteQ_eq] at hf
        exact q f T hf ho
      · rintro x r ρ S1 ⟨rfl, j, f, y, hr, hj, rfl, hf, ho⟩ F hF
        have hj' : j < (kidsD d).length := by
          have := congrArg List.length hr
          simp [rng] at this
          omega
        have hx : x = .int j ∧ r = rng ((j + 1 : Nat) : Int) ((kidsD d).length - (j + 1)) := by
          have e : (kidsD d).length - j = ((kidsD d).length - (j + 1)) + 1 := by omega
          rw [e] at hr
          simp only [rng, List.range_succ_eq_map, List.map_cons, List.map_map, List.cons.injEq] at hr
          refine ⟨by simpa using hr.1, ?_⟩
          rw [hr.2]
          unfold rng
          refine List.map_congr_left fun i _ => ?_
          simp
          omega
        obtain ⟨rfl, rfl⟩ := hx
        have hcm : (kidsD d)[j] ∈ kidsD d := List.getElem_mem hj'
        have hkp := hw.kid hcm
        have hcp := count_kid hw hcm
        have e1 : atI (kidsD d) (j : Int) = some (kidsD d)[j] := atD (List.getElem?_eq_getElem hj')
        have hL := hlen (j + 1) (by omega)
        have e3 : ((ownW d).map (fun x => (p, x)) ++ siteKs n p 0 ((kidsD d).take (j + 1))) = ((ownW d).map (fun x => (p, x)) ++ siteKs n p 0 ((kidsD d).take j)) ++ siteQ n (kidsD d)[j] (p ++ [(j : Int)]) := by
          rw [List.take_add_one, List.getElem?_eq_getElem hj', siteKs_app]
          simp [siteKs, List.length_take, Nat.min_eq_left (Nat.le_of_lt hj')]
        simp_arith [e1, pathD, spChk]
        refine ⟨big2 (by simp; omega), _, p ++ [(j : Int)], ?_, hkp, by omega, by simp; omega, ?_⟩
        · simp [pathD]
        · try simp_arith
          rw [e3] at hL
          refine fnd_add hf (by simp only [sitesD, List.length_map, List.length_append] at hL ⊢; omega) ?_
          refine hF _ _ ⟨rfl, j + 1, _, _, rfl, hj', rfl, .inl ?_, fun o e => by cases e⟩
          rw [e3]
          simp [sitesD]
    have fin : ∀ (b : O) (a : _) (ws : List Str), ownW d = ws → N5 [some d, some (pathD p), some (.ref S.length), a, none, none] (S ++ [O.lst (ws.map fun x => A.D.tup [pathD p, .str x])] ++ [b]) := fun b a ws e => by
      rw [List.append_assoc]
      exact rest _ _ a (Nat.le_refl _) (by rw [e]; simp [sitesD, siteD, Function.comp_def])
    clear rest
    have f0 := fun b a => fin b a []
    have f1 := fun b a x => fin b a [x]
    have f2 := fun b a x y => fin b a [x, y]
    clear fin
    simp only [List.map_cons, List.map_nil] at f0 f1 f2
    refine seq_by fun N1 hN1 => ?_
    simp_arith
    refine hN1 _ _ (seq_by fun N2 hN2 => ?_)
    clear hN1
    cases hw.shp with
    | cell h =>
      obtain ⟨_, _, h⟩ := cell_parts h
      rcases how_str h with rfl | rfl
      · simp_arith [aDGetM, refOf, dctAt, putS, List.lookup, ofString_beq, ofString_inj, List.foldl, get_push, Option.getD_none, Option.getD_some]
        refine hN2 _ _ (seq_by fun N3 hN3 => ?_)
        clear hN2
        (simp_arith [v_l0, v_l1, v_set_push2, v_lst_push2])
        refine hN3 _ _ (seq_by fun N4 hN4 => ?_)
        simp_arith [v_l0, v_l1, v_set_push2, v_lst_push2]
        refine hN4 _ _ ?_
        simp_arith [v_l0, v_l1, v_set_push2, v_lst_push2]
        exact f1 _ _ "look" (by simp [ownW, ownL, aheadW, kdOf, fldOf, itsOf, isS, ofString_inj])
      · simp_arith [aDGetM, refOf, dctAt, putS, List.lookup, ofString_beq, ofString_inj, List.foldl, get_push, Option.getD_none, Option.getD_some]
        refine hN2 _ _ (seq_by fun N3 hN3 => ?_)
        clear hN2
        (simp_arith [v_l0, v_l1, v_set_push2, v_lst_push2])
        refine hN3 _ _ (seq_by fun N4 hN4 => ?_)
        simp_arith [v_l0, v_l1, v_set_push2, v_lst_push2]
        refine hN4 _ _ ?_
        simp_arith [v_l0, v_l1, v_set_push2, v_lst_push2]
        exact f0 _ _ (by simp [ownW, ownL, aheadW, kdOf, fldOf, itsOf, isS, ofString_inj])
    | row => 
      simp_arith [aDGetM, refOf, dctAt, putS, List.lookup, ofString_beq, ofString_inj, List.foldl, get_push, Option.getD_none, Option.getD_some]
      refine hN2 _ _ (seq_by fun N3 hN3 => ?_)
      clear hN2
      (simp_arith [v_l0, v_l1, v_set_push2, v_lst_push2])
      refine hN3 _ _ (seq_by fun N4 hN4 => ?_)
      simp_arith [v_l0, v_l1, v_set_push2, v_lst_push2]
      refine hN4 _ _ ?_
      simp_arith [v_l0, v_l1, v_set_push2, v_lst_push2]
      exact f0 _ _ (by simp [ownW, ownL, aheadW, kdOf, fldOf, itsOf, isS, ofString_inj])
    | choice h =>
      rcases how_str h with rfl | rfl
      · simp_arith [aDGetM, refOf, dctAt, putS, List.lookup, ofString_beq, ofString_inj, List.foldl, get_push, Option.getD_none, Option.getD_some]
        refine hN2 _ _ (seq_by fun N3 hN3 => ?_)
        clear hN2
        (simp_arith [v_l0, v_l1, v_set_push2, v_lst_push2])
        refine hN3 _ _ (seq_by fun N4 hN4 => ?_)
        simp_arith [v_l0, v_l1, v_set_push2, v_lst_push2]
        refine hN4 _ _ ?_
        simp_arith [v_l0, v_l1, v_set_push2, v_lst_push2]
        exact f1 _ _ "look" (by simp [ownW, ownL, aheadW, kdOf, fldOf, itsOf, isS, ofString_inj])
      · simp_arith [aDGetM, refOf, dctAt, putS, List.lookup, ofString_beq, ofString_inj, List.foldl, get_push, Option.getD_none, Option.getD_some]
        refine hN2 _ _ (seq_by fun N3 hN3 => ?_)
        clear hN2
        (simp_arith [v_l0, v_l1, v_set_push2, v_lst_push2])
        refine hN3 _ _ (seq_by fun N4 hN4 => ?_)
        simp_arith [v_l0, v_l1, v_set_push2, v_lst_push2]
        refine hN4 _ _ ?_
        simp_arith [v_l0, v_l1, v_set_push2, v_lst_push2]
        exact f0 _ _ (by simp [ownW, ownL, aheadW, kdOf, fldOf, itsOf, isS, ofString_inj])
    | times =>
      simp_arith [aDGetM, refOf, dctAt, putS, List.lookup, ofString_beq, ofString_inj, List.foldl, get_push, Option.getD_none, Option.getD_some]
      refine hN2 _ _ (seq_by fun N3 hN3 => ?_)
      clear hN2
      (simp_arith [v_l0, v_l1, v_set_push2, v_lst_push2])
      refine hN3 _ _ (seq_by fun N4 hN4 => ?_)
      simp_arith [v_l0, v_l1, v_set_push2, v_lst_push2]
      refine hN4 _ _ ?_
      simp_arith [v_l0, v_l1, v_set_push2, v_lst_push2]
      exact f0 _ _ (by simp [ownW, ownL, aheadW, kdOf, fldOf, itsOf, isS, ofString_inj])
    | counted h ha hb =>
      rcases how_str h with rfl | rfl <;> rcases most_parts hb with rfl | ⟨i, rfl, _⟩
      · simp_arith [aDGetM, refOf, dctAt, putS, List.lookup, ofString_beq, ofString_inj, List.foldl, get_push, Option.getD_none, Option.getD_some]
        refine hN2 _ _ (seq_by fun N3 hN3 => ?_)
        clear hN2
        (simp_arith [v_l0, v_l1, v_set_push2, v_lst_push2])
        refine hN3 _ _ (seq_by fun N4 hN4 => ?_)
        simp_arith [v_l0, v_l1, v_set_push2, v_lst_push2]
        refine hN4 _ _ ?_
        simp_arith [v_l0, v_l1, v_set_push2, v_lst_push2]
        exact f1 _ _ "look" (by simp [ownW, ownL, aheadW, kdOf, fldOf, itsOf, isS, ofString_inj])
      · simp_arith [aDGetM, refOf, dctAt, putS, List.lookup, ofString_beq, ofString_inj, List.foldl, get_push, Option.getD_none, Option.getD_some]
        refine hN2 _ _ (seq_by fun N3 hN3 => ?_)
        clear hN2
        (simp_arith [v_l0, v_l1, v_set_push2, v_lst_push2])
        refine hN3 _ _ (seq_by fun N4 hN4 => ?_)
        simp_arith [v_l0, v_l1, v_set_push2, v_lst_push2]
        refine hN4 _ _ ?_
        simp_arith [v_l0, v_l1, v_set_push2, v_lst_push2]
        exact f2 _ _ "look" "ahead" (by simp [ownW, ownL, aheadW, kdOf, fldOf, itsOf, isS, ofString_inj])
      · simp_arith [aDGetM, refOf, dctAt, putS, List.lookup, ofString_beq, ofString_inj, List.foldl, get_push, Option.getD_none, Option.getD_some]
        refine hN2 _ _ (seq_by fun N3 hN3 => ?_)
        clear hN2
        (simp_arith [v_l0, v_l1, v_set_push2, v_lst_push2])
        refine hN3 _ _ (seq_by fun N4 hN4 => ?_)
        simp_arith [v_l0, v_l1, v_set_push2, v_lst_push2]
        refine hN4 _ _ ?_
        simp_arith [v_l0, v_l1, v_set_push2, v_lst_push2]
        exact f0 _ _ (by simp [ownW, ownL, aheadW, kdOf, fldOf, itsOf, isS, ofString_inj])
      · simp_arith [aDGetM, refOf, dctAt, putS, List.lookup, ofString_beq, ofString_inj, List.foldl, get_push, Option.getD_none, Option.getD_some]
        refine hN2 _ _ (seq_by fun N3 hN3 => ?_)
        clear hN2
        (simp_arith [v_l0, v_l1, v_set_push2, v_lst_push2])
        refine hN3 _ _ (seq_by fun N4 hN4 => ?_)
        simp_arith [v_l0, v_l1, v_set_push2, v_lst_push2]
        refine hN4 _ _ ?_
        simp_arith [v_l0, v_l1, v_set_push2, v_lst_push2]
        exact f1 _ _ "ahead" (by simp [ownW, ownL, aheadW, kdOf, fldOf, itsOf, isS, ofString_inj])
    | within h =>
      have h := (limit_parts h).1
      rcases how_str h with rfl | rfl
      · simp_arith [aDGetM, refOf, dctAt, putS, List.lookup, ofString_beq, ofString_inj, List.foldl, get_push, Option.getD_none, Option.getD_some]
        refine hN2 _ _ (seq_by fun N3 hN3 => ?_)
        clear hN2
        (simp_arith [v_l0, v_l1, v_set_push2, v_lst_push2])
        refine hN3 _ _ (seq_by fun N4 hN4 => ?_)
        simp_arith [v_l0, v_l1, v_set_push2, v_lst_push2]
        refine hN4 _ _ ?_
        simp_arith [v_l0, v_l1, v_set_push2, v_lst_push2]
        exact f1 _ _ "look" (by simp [ownW, ownL, aheadW, kdOf, fldOf, itsOf, isS, ofString_inj])
      · simp_arith [aDGetM, refOf, dctAt, putS, List.lookup, ofString_beq, ofString_inj, List.foldl, get_push, Option.getD_none, Option.getD_some]
        refine hN2 _ _ (seq_by fun N3 hN3 => ?_)
        clear hN2
        (simp_arith [v_l0, v_l1, v_set_push2, v_lst_push2])
        refine hN3 _ _ (seq_by fun N4 hN4 => ?_)
        simp_arith [v_l0, v_l1, v_set_push2, v_lst_push2]
        refine hN4 _ _ ?_
        simp_arith [v_l0, v_l1, v_set_push2, v_lst_push2]
        exact f0 _ _ (by simp [ownW, ownL, aheadW, kdOf, fldOf, itsOf, isS, ofString_inj])
    | fill =>
      simp_arith [aDGetM, refOf, dctAt, putS, List.lookup, ofString_beq, ofString_inj, List.foldl, get_push, Option.getD_none, Option.getD_some]
      refine hN2 _ _ (seq_by fun N3 hN3 => ?_)
      clear hN2
      (simp_arith [v_l0, v_l1, v_set_push2, v_lst_push2])
      refine hN3 _ _ (seq_by fun N4 hN4 => ?_)
      simp_arith [v_l0, v_l1, v_set_push2, v_lst_push2]
      refine hN4 _ _ ?_
      simp_arith [v_l0, v_l1, v_set_push2, v_lst_push2]
      exact f0 _ _ (by simp [ownW, ownL, aheadW, kdOf, fldOf, itsOf, isS, ofString_inj])
    | ifleft =>
      simp_arith [aDGetM, refOf, dctAt, putS, List.lookup, ofString_beq, ofString_inj, List.foldl, get_push, Option.getD_none, Option.getD_some]
      refine hN2 _ _ (seq_by fun N3 hN3 => ?_)
      clear hN2
      (simp_arith [v_l0, v_l1, v_set_push2, v_lst_push2])
      refine hN3 _ _ (seq_by fun N4 hN4 => ?_)
      simp_arith [v_l0, v_l1, v_set_push2, v_lst_push2]
      refine hN4 _ _ ?_
      simp_arith [v_l0, v_l1, v_set_push2, v_lst_push2]
      exact f0 _ _ (by simp [ownW, ownL, aheadW, kdOf, fldOf, itsOf, isS, ofString_inj])
    | need =>
      simp_arith [aDGetM, refOf, dctAt, putS, List.lookup, ofString_beq, ofString_inj, List.foldl, get_push, Option.getD_none, Option.getD_some]
      refine hN2 _ _ (seq_by fun N3 hN3 => ?_)
      clear hN2
      (simp_arith [v_l0, v_l1, v_set_push2, v_lst_push2])
      refine hN3 _ _ (seq_by fun N4 hN4 => ?_)
      simp_arith [v_l0, v_l1, v_set_push2, v_lst_push2]
      refine hN4 _ _ ?_
      simp_arith [v_l0, v_l1, v_set_push2, v_lst_push2]
      exact f1 _ _ "need" (by simp [ownW, ownL, aheadW, kdOf, fldOf, itsOf, isS, ofString_inj])
    | pad h0 h1 h =>
      rcases how_str h with rfl | rfl
      · simp_arith [aDGetM, refOf, dctAt, putS, List.lookup, ofString_beq, ofString_inj, List.foldl, get_push, Option.getD_none, Option.getD_some]
        refine hN2 _ _ (seq_by fun N3 hN3 => ?_)
        clear hN2
        (simp_arith [v_l0, v_l1, v_set_push2, v_lst_push2])
        refine hN3 _ _ (seq_by fun N4 hN4 => ?_)
        simp_arith [v_l0, v_l1, v_set_push2, v_lst_push2]
        refine hN4 _ _ ?_
        simp_arith [v_l0, v_l1, v_set_push2, v_lst_push2]
        exact f1 _ _ "look" (by simp [ownW, ownL, aheadW, kdOf, fldOf, itsOf, isS, ofString_inj])
      · simp_arith [aDGetM, refOf, dctAt, putS, List.lookup, ofString_beq, ofString_inj, List.foldl, get_push, Option.getD_none, Option.getD_some]
        refine hN2 _ _ (seq_by fun N3 hN3 => ?_)
        clear hN2
        (simp_arith [v_l0, v_l1, v_set_push2, v_lst_push2])
        refine hN3 _ _ (seq_by fun N4 hN4 => ?_)
        simp_arith [v_l0, v_l1, v_set_push2, v_lst_push2]
        refine hN4 _ _ ?_
        simp_arith [v_l0, v_l1, v_set_push2, v_lst_push2]
        exact f0 _ _ (by simp [ownW, ownL, aheadW, kdOf, fldOf, itsOf, isS, ofString_inj])
  · intro ds S Q E h
    obtain ⟨d, x2, rfl, d', p, eq, hw, hc, hp, q⟩ := opt_two h
    cases eq
    refine ⟨d, p, rfl, hw, hc, hp, fun f T hf ho => ⟨T, _, rfl, ?_, q⟩⟩
    rcases hf with rfl | ⟨o, rfl, h⟩
    · simp only [frz]
      rw [if_pos (by simp only [cl]; exact cls_pd sitesD_pd)]
    · exact frz_new (ho o rfl) h sitesD_pd
end


/-! ### the law's own taking off, walked -/
abbrev s_lless : Stmt := (topS 77)
theorem sc_lless : FnScope ["part", "path", "out", "inner", "below", "place", "at"] ["part", "path", "out"] (defScope s_lless) := ⟨rfl, rfl, rfl, by decide +kernel, rfl, by decide +kernel, by decide +kernel⟩
/-- a list of checks, changing or not -/
def OutL (S : Sto) (x : A.D) (L : List Site) : Prop := FndIs S x (sitesD L)
theorem OutL.app {S T : Sto} {x : A.D} {L : List Site} (h : OutL S x L) : OutL (S ++ T) x L := by
  rcases h with h | ⟨o, h, e⟩
  · exact .inl h
  · exact .inr ⟨o, h, by rw [List.getElem?_append_left (get_lt e)]; exact e⟩
theorem sitesL_dt {L : List Site} (h : ∀ s ∈ L, PyData.strOk s.2 = true) : Dt 3 (.lst (sitesD L)) := Dt.lst fun x hx => by
  obtain ⟨s, hs, rfl⟩ := List.mem_map.mp hx
  exact site_dt (h s hs)
theorem inL_by {S : Sto} {x : A.D} {L : List Site} {s : Site} {neg : Bool} {Q : QD} (h : OutL S x L) (hL : ∀ s ∈ L, PyData.strOk s.2 = true) (hs : PyData.strOk s.2 = true) (q : Q (.bl (decide (s ∈ L) != neg)) S) : dInD neg (siteD s) x S Q := by
  have d1 : dat (siteD s) = true := ((site_dt hs).up (by decide)).dat
  have d2 : dat (.lst (sitesD L)) = true := ((sitesL_dt hL).up (by decide)).dat
  have e0 : rd S (siteD s) = siteD s := rfl
  rcases h with rfl | ⟨o, rfl, h⟩
  · show opt (dsv S (.lst (sitesD L))) _
    refine ⟨⟨d1, d2⟩, ?_⟩
    rw [e0, any_site]
    exact q
  · have e1 : dsv S (.ref o) = some (sitesD L) := by simp [dsv, h]
    have e2 : rd S (.ref o) = .lst (sitesD L) := by simp [rd, h]
    unfold dInD
    rw [e1, e2]
    refine ⟨⟨d1, d2⟩, ?_⟩
    rw [e0, any_site]
    exact q
theorem ok_need : PyData.strOk ("need" : Str) = true := by decide +kernel
theorem ok_look : PyData.strOk ("look" : Str) = true := by decide +kernel
theorem ok_ahead : PyData.strOk ("ahead" : Str) = true := by decide +kernel
theorem d_nil : dat (.lst []) = true := by decide +kernel
def spLess (n : Nat) : ASp := fun ds S Q _ => opt (three3 ds) fun e => ∃ d p x L, e = (d, pathD p, x) ∧ Pw n d ∧ n ≤ 8 ∧ p.length + n ≤ 100 ∧ OutL S x L ∧ (∀ s ∈ L, PyData.strOk s.2 = true) ∧ LessOk L d p ∧ Q (lessR L n d p) S
def spLessI (n : Nat) : ASp := fun ds S Q _ => opt (three3 ds) fun e => ∃ d p x L, e = (d, pathD p, x) ∧ Pw n d ∧ n ≤ 8 ∧ p.length + n ≤ 100 ∧ OutL S x L ∧ (∀ s ∈ L, PyData.strOk s.2 = true) ∧ LessOk L d p ∧ ∀ T, Q (lessR L n d p) (S ++ T)
theorem seq2_by {a b t : AS} {De : EndsA} {ρ : Ev} {S : Sto} (h : ∀ N : Ev → Sto → Prop, (∀ ρ S, t De ρ S → N ρ S) → sSeq a b { De with nx := N } ρ S) : sSeq a (sSeq b t) De ρ S := h _ fun _ _ z => z
theorem tup_of {d : A.D} (h : Shp d) : ∃ fs, d = .tup (.str (kdOf d) :: fs) ∧ fs.length ≤ 5 := by
  cases h <;> exact ⟨_, rfl, by simp⟩
theorem kd_withK {d : A.D} {cs : List A.D} (h : Shp d) (hl : cs.length = (kidsD d).length) : kdOf (withK d cs) = kdOf d := by
  cases h with
  | cell => rw [withK_cell]
  | row => rw [withK_row]; rfl
  | choice => rw [withK_choice]; rfl
  | times => rw [kids_times] at hl; obtain ⟨c, rfl⟩ := len1 hl; rw [withK_times]; rfl
  | counted => rw [kids_counted] at hl; obtain ⟨c, rfl⟩ := len1 hl; rw [withK_counted]; rfl
  | within => rw [kids_within] at hl; obtain ⟨c, rfl⟩ := len1 hl; rw [withK_within]; rfl
  | fill => rw [kids_fill] at hl; obtain ⟨c, rfl⟩ := len1 hl; rw [withK_fill]; rfl
  | ifleft => rw [kids_ifleft] at hl; obtain ⟨c, rfl⟩ := len1 hl; rw [withK_ifleft]; rfl
  | need => rw [withK_need]
  | pad => rw [withK_pad]
/-- the fields that say checked or bare -/
theorem look_kd {d : A.D} (h : Shp d) (hx : ("look" : Str) ∈ ownW d) : (kdOf d = "cell" ∧ (itsOf d).length = 4) ∨ (kdOf d = "choice" ∧ (itsOf d).length = 3) ∨ (kdOf d = "counted" ∧ (itsOf d).length = 5) ∨ (kdOf d = "within" ∧ (itsOf d).length = 6) ∨ (kdOf d = "pad" ∧ (itsOf d).length = 3) := by
  cases h with
  | cell => exact .inl ⟨rfl, rfl⟩
  | choice => exact .inr (.inl ⟨rfl, rfl⟩)
  | counted => exact .inr (.inr (.inl ⟨rfl, rfl⟩))
  | within => exact .inr (.inr (.inr (.inl ⟨rfl, rfl⟩)))
  | pad => exact .inr (.inr (.inr (.inr ⟨rfl, rfl⟩)))
  | need => rw [own_need] at hx; simp [ofString_inj] at hx
  | row => rw [own_row] at hx; simp at hx
  | times => rw [own_times] at hx; simp at hx
  | fill => rw [own_fill] at hx; simp at hx
  | ifleft => rw [own_ifleft] at hx; simp at hx
theorem ahead_kd {d : A.D} (h : Shp d) (hx : ("ahead" : Str) ∈ ownW d) : kdOf d = "counted" ∧ (itsOf d).length = 5 := by
  cases h with
  | counted => exact ⟨rfl, rfl⟩
  | cell hc =>
    obtain ⟨_, _, hh⟩ := cell_parts hc
    rcases how_str hh with rfl | rfl <;> rw [own_cell, mem_ck] at hx <;> simp [ofString_inj] at hx
  | choice hm => rcases how_str hm with rfl | rfl <;> rw [own_choice, mem_ck] at hx <;> simp [ofString_inj] at hx
  | within hl => rcases how_str (limit_parts hl).1 with rfl | rfl <;> rw [own_within, mem_ck] at hx <;> simp [ofString_inj] at hx
  | pad _ _ ha => rcases how_str ha with rfl | rfl <;> rw [own_pad, mem_ck] at hx <;> simp [ofString_inj] at hx
  | need => rw [own_need] at hx; simp [ofString_inj] at hx
  | row => rw [own_row] at hx; simp at hx
  | times => rw [own_times] at hx; simp at hx
  | fill => rw [own_fill] at hx; simp at hx
  | ifleft => rw [own_ifleft] at hx; simp at hx
theorem kd_ne {d : A.D} {fs : List A.D} (h : d = .tup (.str (kdOf d) :: fs)) : itsOf d = .str (kdOf d) :: fs := by rw [h]; simp [itsOf, kdOf]
section
variable {P : Program} {w : World} {K : PySem.W.Frag} {cA : Str → Addr} {mg : Str → Option Value} {base : Heap} {f : Addr} {fd : FuncData} {n k : Nat}
theorem d_lless (D : Dfn K mg "_law_less" s_lless ["part", "path", "out"] f fd) (T : Bn mg) (cC : Fnc P w K mg base 1 "_law_children" (upSp ⟨K, cA⟩ spKids)) (cFi : Fnc P w K mg base 1 "_law_field" (upSp ⟨K, cA⟩ spWf)) (cLe : Fnc P w K mg base (n + 1) "_law_less" (upSp ⟨K, cA⟩ (spLess n))) : Fnc P w K mg base (n + 2) "_law_less" (upSp ⟨K, cA⟩ (spLess (n + 1))) := by
  refine Fnc.pure (sp := spLessI (n + 1)) (D.fnc (def_ok (k := n + 1) D.F sc_lless (fun cdv A outer s H E hr => (js_cons (js_if (jt_cmp (op_inDA K (u65 hr)) os_inD (j_tup (ja_cons (jv 1) (ja_cons j_str ja_nil))) (jv 2) rfl)
      (js_one (js_ret (j_tup (ja_cons j_str (ja_cons (j_tup ja_nil) ja_nil)))))
      js_nil)
    (js_cons (js_set (i := 3) sc_lless.nd rfl (Or.inr rfl) (j_fc cC hr (by omega) rfl (L2N.passAt (L2N.takes_of rfl rfl rfl rfl)) (ja_cons (jv 0) ja_nil)))
    (js_cons (js_set (i := 4) sc_lless.nd rfl (Or.inr rfl) (j_lc (own := [("at", 6)]) (tt := aYes) (by rfl) sc_lless.nd (gl_name (i := 6) (by decide)) (ji_range1 rfl T.range (ja_cons (j_callB (kcall_len_seq K) cs_len (by rfl) T.len (by decide +kernel) (ja_cons (jv 3) ja_nil)) ja_nil)) (blkOk_by (own := [("at", 6)]) (N := ["part", "path", "out", "inner", "below", "place", "at"]) (sc := defScope s_lless) (by decide +kernel)) (fun _ _ _ _ _ => (pg_name (i := 6) sc_lless.nd rfl (Or.inl rfl))) (fun _ _ _ _ _ => jts_nil) (fun _ _ _ _ _ => (j_fc cLe hr (by omega) rfl (passN rfl rfl) (ja_cons (j_ix (kix_lt K) os_ix (jv 3) (jv 6) (fun _ _ => rfl)) (ja_cons (j_op (op_addA K) os_add (jv 1) (j_tup (ja_cons (jv 6) ja_nil))) (ja_cons (jv 2) ja_nil)))))))
    (js_cons (js_if (jt_cmp (op_eqA K hr.units) os_eq (j_ix (kix_lt K) os_ix (jv 0) j_int (fun _ _ => rfl)) j_str (nomark _))
      (js_one (js_set (i := 0) sc_lless.nd rfl (Or.inr rfl) (j_tup (ja_cons j_str (ja_cons (j_callTy (kcall_tuple_of K) cs_tuple (by rfl) T.tuple (by decide +kernel) (ja_cons (jv 4) ja_nil)) ja_nil)))))
      (js_one (js_if (jt_cmp (op_eqA K hr.units) os_eq (j_ix (kix_lt K) os_ix (jv 0) j_int (fun _ _ => rfl)) j_str (nomark _))
        (js_one (js_set (i := 0) sc_lless.nd rfl (Or.inr rfl) (j_tup (ja_cons j_str (ja_cons (j_ix (kix_lt K) os_ix (jv 0) j_int (fun _ _ => rfl)) (ja_cons (j_callTy (kcall_tuple_of K) cs_tuple (by rfl) T.tuple (by decide +kernel) (ja_cons (j_lc (own := [("at", 6)]) (tt := aYes) (by rfl) sc_lless.nd (gl_name (i := 6) (by decide)) (ji_range1 rfl T.range (ja_cons (j_callB (kcall_len_seq K) cs_len (by rfl) T.len (by decide +kernel) (ja_cons (jv 4) ja_nil)) ja_nil)) (blkOk_by (own := [("at", 6)]) (N := ["part", "path", "out", "inner", "below", "place", "at"]) (sc := defScope s_lless) (by decide +kernel)) (fun _ _ _ _ _ => (pg_name (i := 6) sc_lless.nd rfl (Or.inl rfl))) (fun _ _ _ _ _ => jts_nil) (fun _ _ _ _ _ => (j_tup (ja_cons (j_ix (kix_lt K) os_ix (j_ix (kix_lt K) os_ix (j_ix (kix_lt K) os_ix (jv 0) j_int (fun _ _ => rfl)) (jv 6) (fun _ _ => rfl)) j_int (fun _ _ => rfl)) (ja_cons (j_ix (kix_lt K) os_ix (jv 4) (jv 6) (fun _ _ => rfl)) ja_nil))))) ja_nil)) ja_nil))))))
        (js_one (js_if (jt_cmp (op_neA K hr.units) os_ne (jv 4) (j_lst ja_nil) (nomark _))
          (js_one (js_set (i := 0) sc_lless.nd rfl (Or.inr rfl) (j_op (op_addA K) os_add (j_sl (jv 0) jo_none (jo_some (j_neg j_int))) (j_tup (ja_cons (j_ix (kix_lt K) os_ix (jv 4) j_int (fun _ _ => rfl)) ja_nil)))))
          js_nil)))))
    (js_cons (js_if (jt_cmp (op_inDA K (u65 hr)) os_inD (j_tup (ja_cons (jv 1) (ja_cons j_str ja_nil))) (jv 2) rfl)
      (js_cons (js_set (i := 5) sc_lless.nd rfl (Or.inl rfl) (j_dget (u1 hr) (j_disp (.cons j_int (.cons j_int (.cons j_int (.cons j_int (.cons j_int .nil))))) rfl rfl (List.cons_ne_nil _ _) (Nat.le_of_ble_eq_true rfl)) (j_ix (kix_lt K) os_ix (jv 0) j_int (fun _ _ => rfl)) (fun _ _ => rfl)))
      (js_one (js_set (i := 0) sc_lless.nd rfl (Or.inr rfl) (j_fc cFi hr (by omega) rfl (L2N.passAt (L2N.takes_of rfl rfl rfl rfl)) (ja_cons (jv 0) (ja_cons (jv 5) (ja_cons j_str ja_nil)))))))
      js_nil)
    (js_cons (js_if (jt_cmp (op_inDA K (u65 hr)) os_inD (j_tup (ja_cons (jv 1) (ja_cons j_str ja_nil))) (jv 2) rfl)
      (js_one (js_set (i := 0) sc_lless.nd rfl (Or.inr rfl) (j_fc cFi hr (by omega) rfl (L2N.passAt (L2N.takes_of rfl rfl rfl rfl)) (ja_cons (jv 0) (ja_cons j_int (ja_cons j_non ja_nil))))))
      js_nil)
    (js_one (js_ret (jv 0)))))))))) ?_ ?_)) ?_
  · intro ds S Q E h
    obtain ⟨a, b, c, rfl, _⟩ := opt_three h
    rfl
  · intro ds S Q E h
    obtain ⟨d, x2, x, rfl, d', p, x', L, eq, hw, hn8, hp, hx, hL, ho, q⟩ := opt_three h
    clear h
    cases eq
    have ho0 : ∀ {x : Str}, (p, x) ∈ L → x ∈ ownW d := fun {x} hx => has_nil.mp (ho [] x (by simpa using hx))
    refine seq_by fun N1 hN1 => ?_
    simp_arith [pathD]
    refine inL_by (s := (p, "need")) hx hL ok_need ?_
    simp_arith
    unfold lessR at q
    by_cases hN : (p, ("need" : Str)) ∈ L
    · rw [if_pos (by simpa using hN)]
      rw [if_pos hN] at q
      have q := q []
      rw [List.append_nil] at q
      exact q
    · rw [if_neg (by simpa using hN)]
      rw [if_neg hN] at q
      refine hN1 _ _ (seq_by fun N2 hN2 => ?_)
      clear hN1
      simp_arith [spKids]
      refine ⟨hw.shp, hN2 _ _ (seq_by fun N3 hN3 => ?_)⟩
      clear hN2
      have kl := kids_len hw.shp
      simp_arith
      refine ⟨⟨by omega, by omega⟩, ?_⟩
      have kid : ∀ j, (hj : j < (kidsD d).length) → Pw n (kidsD d)[j] ∧ LessOk L (kidsD d)[j] (p ++ [(j : Int)]) := fun j hj => by
        refine ⟨hw.kid (List.getElem_mem hj), fun q x hq => ?_⟩
        have := has_cons.mp (ho ((j : Int) :: q) x (by simpa using hq))
        have e : kidD d (j : Int) = (kidsD d)[j] := by unfold kidD; rw [List.getD_eq_getElem?_getD, Int.toNat_natCast, List.getElem?_eq_getElem hj]; rfl
        rw [e] at this
        exact this.2
      have hlen : (lessK (fun c i => lessR L n c (p ++ [i])) 0 (kidsD d)).length = (kidsD d).length := lessK_len
      have hdt : ∀ c ∈ lessK (fun c i => lessR L n c (p ++ [i])) 0 (kidsD d), Dt 24 c := fun c hc => by
        obtain ⟨j, hj, rfl⟩ := List.getElem_of_mem hc
        rw [hlen] at hj
        have e := lessK_get (F := fun c i => lessR L n c (p ++ [i])) (xs := kidsD d) (i := 0) (j := j)
        rw [List.getElem?_eq_getElem (by omega), List.getElem?_eq_getElem hj, Option.map_some] at e
        rw [Option.some.inj e, Int.zero_add]
        have hk := kid j hj
        exact (dt_pw (pw_w (lessR_spec hk.1 hk.2).1 hk.1)).up (by omega)
      refine lcX_map (fun _ => true) (fun y => match y with | .int j => lessR L n (kidD d j) (p ++ [j]) | d => d) (by simp [rng]; omega) (fun y hy Y F hY _ => ?_) ?_
      · obtain ⟨j, hj, rfl⟩ := List.mem_map.mp hy
        have hj := List.mem_range.mp hj
        have hj : j < (kidsD d).length := by simpa using hj
        have hY := hY rfl
        have e1 : atI (kidsD d) (0 + (j : Int)) = some (kidsD d)[j] := by rw [Int.zero_add]; exact atD (List.getElem?_eq_getElem hj)
        have e2 : kidD d (0 + (j : Int)) = (kidsD d)[j] := by rw [Int.zero_add]; unfold kidD; rw [List.getD_eq_getElem?_getD, Int.toNat_natCast, List.getElem?_eq_getElem hj]; rfl
        have hk := kid j hj
        simp only [e2] at hY
        simp_arith [e1, spLess]
        refine ⟨big2 (by simp; omega), _, p ++ [0 + (j : Int)], x, L, by simp [pathD], hk.1, by omega, by simp; omega, hx, hL, by rw [Int.zero_add]; exact hk.2, ?_⟩
        exact hY
      · rw [filter_all]
        have e : (rng 0 (kidsD d).length).map (fun y => match y with | .int j => lessR L n (kidD d j) (p ++ [j]) | d => d) = lessK (fun c i => lessR L n c (p ++ [i])) 0 (kidsD d) := by
          apply List.ext_getElem?
          intro j
          rw [lessK_get]
          by_cases hj : j < (kidsD d).length
          · have e2 : kidD d (j : Int) = (kidsD d)[j] := by unfold kidD; rw [List.getD_eq_getElem?_getD, Int.toNat_natCast, List.getElem?_eq_getElem hj]; rfl
            simp [rng, hj, e2]
          · rw [List.getElem?_eq_none (by simp [rng]; omega), List.getElem?_eq_none (by omega)]; rfl
        try simp only [Int.toNat_natCast]
        rw [e]
        refine hN3 _ _ (seq_by fun N4 hN4 => ?_)
        clear hN3 e
        generalize lessK (fun c i => lessR L n c (p ++ [i])) 0 (kidsD d) = ks at hlen hdt q ⊢
        have dks : dat (.lst ks) = true := ((Dt.lst hdt).up (by decide)).dat
        have dnil : dat (.lst []) = true := by decide +kernel
        -- behind the parts
        have cont : N4 [some (withK d ks), some (.tup (p.map A.D.int)), some x, some (.lst (kidsD d)), some (.lst ks), none, none] S := by
          refine hN4 _ _ (seq_by fun N5 hN5 => ?_)
          clear hN4
          have sh := shp_withK hw.shp hlen
          have ow := own_withK hw.shp hlen
          obtain ⟨fs, et, lfs⟩ := tup_of sh
          have ei := kd_ne et
          simp_arith
          refine inL_by (s := (p, "look")) hx hL ok_look ?_
          simp_arith
          have nxt : ∀ T a, N5 [some (lessA L p (withK d ks)), some (.tup (p.map A.D.int)), some x, some (.lst (kidsD d)), some (.lst ks), a, none] (S ++ T) := by
            intro T a
            refine hN5 _ _ (seq_by fun N6 hN6 => ?_)
            clear hN5
            simp_arith
            refine inL_by (s := (p, "ahead")) hx.app hL ok_ahead ?_
            simp_arith
            by_cases hA : (p, ("ahead" : Str)) ∈ L
            · rw [if_pos (by simpa using hA)]
              obtain ⟨ek, e5⟩ := ahead_kd hw.shp (ho0 hA)
              have eB : lessB L p (lessA L p (withK d ks)) = setF (lessA L p (withK d ks)) 3 .non := by
                unfold lessB
                rw [if_pos hA]
                simp [woW, ofString_inj]
              have sh2 : ∃ xs, lessA L p (withK d ks) = .tup xs ∧ xs.length = (itsOf (withK d ks)).length := by
                unfold lessA
                split
                · exact ⟨_, rfl, by simp⟩
                · exact ⟨_, et, by rw [ei]⟩
              obtain ⟨xs, exs, lxs⟩ := sh2
              have l5 : xs.length = 5 := by
                rw [lxs]
                have h2 := hw.shp
                have hl := hlen
                cases h2 <;> first
                  | (simp [kdOf, ofString_inj] at ek; done)
                  | (rw [kids_counted] at hl; obtain ⟨c, rfl⟩ := len1 hl; rw [withK_counted]; rfl)
              simp_arith [spWf]
              refine ⟨xs, 3, .non, by rw [exs], by decide, by omega, by omega, ?_⟩
              refine hN6 _ _ ?_
              simp_arith
              have qq := q T
              rw [eB, exs] at qq
              exact qq
            · rw [if_neg (by simpa using hA)]
              refine hN6 _ _ ?_
              simp_arith
              have qq := q T
              have eB : lessB L p (lessA L p (withK d ks)) = lessA L p (withK d ks) := by unfold lessB; rw [if_neg hA]
              rw [eB] at qq
              exact qq
          by_cases hK : (p, ("look" : Str)) ∈ L
          · rw [if_pos (by simpa using hK)]
            have hk2 := look_kd sh (by rw [ow]; exact ho0 hK)
            have ek := kd_withK hw.shp hlen
            have eA : lessA L p (withK d ks) = setF (withK d ks) ((hiO (kdOf (withK d ks))).getD 0).toNat (.str "bare") := by
              unfold lessA
              rw [if_pos hK]
              simp [woW, ofString_inj]
            rw [eA] at nxt
            generalize withK d ks = d1 at et ei hk2 nxt ⊢
            have nx2 : ∀ T a, N5 [some (.tup ((A.D.str (kdOf d1) :: fs).set ((hiO (kdOf d1)).getD 0).toNat (.str "bare"))), some (.tup (p.map A.D.int)), some x, some (.lst (kidsD d)), some (.lst ks), a, none] (S ++ T) := by
              intro T a
              have := nxt T a
              unfold setF at this
              rw [ei] at this
              exact this
            clear nxt
            rw [ei] at hk2
            clear ei sh ow ek
            generalize kdOf d1 = kk at et hk2 nx2
            subst et
            rcases hk2 with ⟨rfl, hl2⟩ | ⟨rfl, hl2⟩ | ⟨rfl, hl2⟩ | ⟨rfl, hl2⟩ | ⟨rfl, hl2⟩
            · simp_arith [dctAt, putS, List.lookup, ofString_beq, ofString_inj, List.foldl, get_push, spWf]
              exact ⟨_, 3, _, rfl, by decide, by simp at hl2 ⊢; omega, by simp at hl2 ⊢; omega, by simpa [hiO, ofString_inj] using nx2 [_] (some (.int 3))⟩
            · simp_arith [dctAt, putS, List.lookup, ofString_beq, ofString_inj, List.foldl, get_push, spWf]
              exact ⟨_, 1, _, rfl, by decide, by simp at hl2 ⊢; omega, by simp at hl2 ⊢; omega, by simpa [hiO, ofString_inj] using nx2 [_] (some (.int 1))⟩
            · simp_arith [dctAt, putS, List.lookup, ofString_beq, ofString_inj, List.foldl, get_push, spWf]
              exact ⟨_, 1, _, rfl, by decide, by simp at hl2 ⊢; omega, by simp at hl2 ⊢; omega, by simpa [hiO, ofString_inj] using nx2 [_] (some (.int 1))⟩
            · simp_arith [dctAt, putS, List.lookup, ofString_beq, ofString_inj, List.foldl, get_push, spWf]
              exact ⟨_, 1, _, rfl, by decide, by simp at hl2 ⊢; omega, by simp at hl2 ⊢; omega, by simpa [hiO, ofString_inj] using nx2 [_] (some (.int 1))⟩
            · simp_arith [dctAt, putS, List.lookup, ofString_beq, ofString_inj, List.foldl, get_push, spWf]
              exact ⟨_, 2, _, rfl, by decide, by simp at hl2 ⊢; omega, by simp at hl2 ⊢; omega, by simpa [hiO, ofString_inj] using nx2 [_] (some (.int 2))⟩
          · rw [if_neg (by simpa using hK)]
            have eA : lessA L p (withK d ks) = withK d ks := by unfold lessA; rw [if_neg hK]
            have := nxt [] none
            rw [List.append_nil, eA] at this
            try simp_arith
            exact this
        have cont0 := cont
        clear cont
        have fin1 : True := trivial
        cases hw.shp with
        | row => rw [withK_row] at cont0; simp_arith; exact cont0
        | choice hm ho' =>
          rename_i m os
          rw [withK_choice] at cont0
          rw [kids_choice] at hlen
          obtain ⟨a1, a2, a3⟩ := areOpts_mem ho'
          have hl : ks.length = os.length := by simpa using hlen
          simp_arith
          refine ⟨⟨by omega, by omega⟩, ?_⟩
          refine lcX_map (fun _ => true) (fun y => match y with | .int j => .tup [.int (optNum (os.getD j.toNat .non)), ks.getD j.toNat .non] | d => d) (by simp [rng]; omega) (fun y hy Y F hY _ => ?_) ?_
          · obtain ⟨j, hj, rfl⟩ := List.mem_map.mp hy
            have hj := List.mem_range.mp hj
            have hj : j < ks.length := by simpa using hj
            have hY := hY rfl
            have hjo : j < os.length := by omega
            obtain ⟨i, pp, eo⟩ := a1 _ (List.getElem_mem hjo)
            have e1 : atI ks (0 + (j : Int)) = some ks[j] := by rw [Int.zero_add]; exact atD (List.getElem?_eq_getElem hj)
            have e2 : atI os (0 + (j : Int)) = some (.tup [.int i, pp]) := by rw [Int.zero_add, ← eo]; exact atD (List.getElem?_eq_getElem hjo)
            simp only [Int.zero_add, Int.toNat_natCast, List.getD_eq_getElem?_getD, List.getElem?_eq_getElem hj, List.getElem?_eq_getElem hjo, Option.getD_some, eo, optNum] at hY
            simp_arith [e1, e2]
            exact hY
          · rw [filter_all]
            have e : (rng 0 ks.length).map (fun y => match y with | .int j => A.D.tup [.int (optNum (os.getD j.toNat .non)), ks.getD j.toNat .non] | d => d) = optsD (os.map optNum) ks := by
              apply List.ext_getElem?
              intro j
              by_cases hj : j < ks.length
              · have hjo : j < os.length := by omega
                simp [rng, optsD, hj, hjo, List.getD_eq_getElem?_getD, List.getElem?_zipWith]
              · rw [List.getElem?_eq_none (by simp [rng]; omega), List.getElem?_eq_none (by simp [optsD]; omega)]
            try simp only [Int.toNat_natCast]
            rw [e]
            try simp_arith
            exact cont0
        | cell => rw [withK_cell] at cont0; rw [kids_cell] at hlen; obtain rfl := List.length_eq_zero_iff.mp hlen; simp_arith [d_nil, eqL_nil]; exact cont0
        | need => rw [withK_need] at cont0; rw [kids_need] at hlen; obtain rfl := List.length_eq_zero_iff.mp hlen; simp_arith [d_nil, eqL_nil]; exact cont0
        | pad => rw [withK_pad] at cont0; rw [kids_pad] at hlen; obtain rfl := List.length_eq_zero_iff.mp hlen; simp_arith [d_nil, eqL_nil]; exact cont0
        | times => rw [kids_times] at hlen; obtain ⟨c, rfl⟩ := len1 hlen; rw [withK_times] at cont0; simp_arith [d_nil, dks, eqL_nil, cm3]; exact cont0
        | counted => rw [kids_counted] at hlen; obtain ⟨c, rfl⟩ := len1 hlen; rw [withK_counted] at cont0; simp_arith [d_nil, dks, eqL_nil, cm5]; exact cont0
        | within => rw [kids_within] at hlen; obtain ⟨c, rfl⟩ := len1 hlen; rw [withK_within] at cont0; simp_arith [d_nil, dks, eqL_nil, cm6]; exact cont0
        | fill => rw [kids_fill] at hlen; obtain ⟨c, rfl⟩ := len1 hlen; rw [withK_fill] at cont0; simp_arith [d_nil, dks, eqL_nil, cm2]; exact cont0
        | ifleft => rw [kids_ifleft] at hlen; obtain ⟨c, rfl⟩ := len1 hlen; rw [withK_ifleft] at cont0; simp_arith [d_nil, dks, eqL_nil, cm2]; exact cont0
  · intro ds S Q E h
    obtain ⟨d, x2, x, rfl, d', p, x', L, eq, hw, hn8, hp, hx, hL, ho, q⟩ := opt_three h
    cases eq
    refine ⟨d, p, x, L, rfl, hw, hn8, hp, hx, hL, ho, fun T' => ⟨T', _, rfl, ?_, q⟩⟩
    have h1 := (dt_pw (pw_w (lessR_spec hw ho).1 hw)).1
    generalize lessR L (n + 1) d p = r at h1 ⊢
    cases r <;> first
      | (simp [isPd] at h1; done)
      | (simp only [frz]; rw [if_pos (cl_pd h1)])
end


/-! ### kept, format_of, is_same_format -/
abbrev s_req : Stmt := (inClass (topS 52) 2)
theorem sc_req : FnScope ["self", "other"] ["self", "other"] (defScope s_req) := ⟨rfl, rfl, rfl, by decide +kernel, rfl, by decide +kernel, by decide +kernel⟩
abbrev s_kept : Stmt := (topS 62)
theorem sc_kept : FnScope ["reader", "wanted", "left_out", "site"] ["reader", "wanted"] (defScope s_kept) := ⟨rfl, rfl, rfl, by decide +kernel, rfl, by decide +kernel, by decide +kernel⟩
abbrev s_fmt : Stmt := (topS 63)
theorem sc_fmt : FnScope ["reader"] ["reader"] (defScope s_fmt) := ⟨rfl, rfl, rfl, by decide +kernel, rfl, by decide +kernel, by decide +kernel⟩
abbrev s_same : Stmt := (topS 64)
theorem sc_same : FnScope ["reader", "other"] ["reader", "other"] (defScope s_same) := ⟨rfl, rfl, rfl, by decide +kernel, rfl, by decide +kernel, by decide +kernel⟩
def keepL (d : A.D) (W : List Site) : List Site := (sitesP d).filter fun s => !decide (s ∈ W)
def bareP (d : A.D) : A.D := woP (sitesP d) d
theorem keepL_nil {d : A.D} : keepL d [] = sitesP d := by simp [keepL]
theorem keepL_sub {d : A.D} {W : List Site} : ∀ s ∈ keepL d W, s ∈ sitesP d := fun s hs => (List.mem_filter.mp hs).1
theorem bare_none {d : A.D} (h : Sm d) (t : Site) : ¬ HasS (bareP d) t := fun z => by
  have := ((wo_e (L := sitesP d) h).2 t).mp z
  exact this.2 ((mem_sites h.pw).mpr this.1)
theorem bare_wo {d : A.D} {L : List Site} (h : Sm d) : bareP (woP L d) = bareP d := by
  have h1 := wo_sm (L := L) h
  refine fw_ext h.pw ((wo_e (L := L) h).1.trans (wo_e (L := sitesP (woP L d)) h1).1) (wo_e (L := sitesP d) h).1 fun t => ?_
  exact ⟨fun z => (bare_none h1 t z).elim, fun z => (bare_none h t z).elim⟩
def spReq : ASp := fun ds S Q _ => opt (two2 ds) fun e => ∃ r1 r2 d1 d2, e = (.ref r1, .ref r2) ∧ S[r1]? = some (rdrO d1) ∧ S[r2]? = some (rdrO d2) ∧ Sm d1 ∧ Sm d2 ∧ Q (.bl (eqD d1 d2)) S
def spKept : ASp := fun ds S Q E => opt (two2 ds) fun e => ∃ r d xs, e = (.ref r, .tup xs) ∧ S[r]? = some (rdrO d) ∧ Sm d ∧ ((∃ W, xs = sitesD W ∧ (∀ s ∈ W, s ∈ sitesP d) ∧ Q (.ref S.length) (S ++ [rdrO (woP (keepL d W) d)])) ∨ ∃ L b rest, xs = sitesD L ++ b :: rest ∧ (∀ s ∈ L, s ∈ sitesP d) ∧ BadS d b ∧ E ⟨"NoWord", ["value"], [b]⟩ S)
def spFmt : ASp := fun ds S Q _ => opt (one1 ds) fun e => ∃ r d, e = .ref r ∧ S[r]? = some (rdrO d) ∧ Sm d ∧ Q (.ref S.length) (S ++ [rdrO (bareP d)])
def spSame : ASp := fun ds S Q _ => opt (two2 ds) fun e => ∃ r1 r2 d1 d2, e = (.ref r1, .ref r2) ∧ S[r1]? = some (rdrO d1) ∧ S[r2]? = some (rdrO d2) ∧ Sm d1 ∧ Sm d2 ∧ ∀ S', Gr [] S S' → Q (.bl (eqD (bareP d1) (bareP d2))) S'
section
variable {P : Program} {w : World} {K : PySem.W.Frag} {cA : Str → Addr} {mg : Str → Option Value} {base : Heap} {f fI pP gP : Addr} {fd : FuncData} {n k : Nat}
theorem d_req (D : MDf K "__eq__" "Reader.__eq__" s_req ["self", "other"] f fd) (T : Bn mg) (R : Rdr K cA mg fI pP gP) (iRd : C8.InsC K (cA "Reader"))
    (hf : PySem.W.findIn K (.ref (cA "Reader")) "__eq__" = some (some (.ref f))) (hi : PySem.W.isFn K (.ref f) = true) : Own P w K mg base 2 (cA "Reader") "__eq__" (upSp ⟨K, cA⟩ spReq) := by
  refine ⟨f, hf, hi, fnR_of (def_ok (k := 1) D.F sc_req (fun cdv A outer s H E hr => (js_one (js_ret (j_and (j_callB (call_isiC K iRd) (cs_isiC (Ts := []) (fun T hT => absurd hT (by simp))) (by rfl) T.isinstance (by decide +kernel) (ja_cons (jv 1) (ja_cons (j_gcls (by rfl) R.gl) ja_nil))) (j_one (j_cmp (op_eqA K hr.units) os_eq (j_fld (C := "Reader") R.own_part (jv 0) rfl) (j_fld (C := "Reader") R.own_part (jv 1) rfl) (nomark _))))))) ?_ ?_) D.b⟩
  · intro ds S Q E h
    obtain ⟨a, b, rfl, _⟩ := opt_two h
    rfl
  · intro ds S Q E h
    obtain ⟨x1, x2, rfl, r1, r2, d1, d2, eq, h1, h2, m1, m2, q⟩ := opt_two h
    clear h
    cases eq
    have a1 := m1.dt.dat
    have a2 := m2.dt.dat
    obtain ⟨fs, et, _⟩ := tup_of m1.pw.shp
    simp_arith [fIsiC, rdr_get h1, rdr_get h2, List.lookup, ofString_beq]
    generalize kdOf d1 = kk at et
    subst et
    rw [v_dEq_tup]
    have e2 : rd S d2 = d2 := by
      obtain ⟨fs2, et2, _⟩ := tup_of m2.pw.shp
      rw [et2]; rfl
    rw [e2]
    exact ⟨⟨a1, a2⟩, by simpa only [bxf, v_rd_tup] using q⟩
theorem d_kept (F : FunG K "kept" "kept" s_kept f fd) (hm : mg "kept" = some (.ref f)) (hbn : ∀ (us rest : List Value), us.length = 1 → bindArgs fd ⟨us ++ rest, []⟩ = (newTuple rest >>= fun t => pure ((["reader"] : List Str).zip us ++ [(("wanted" : Str), t)])))
    (T : Bn mg) (cSi : Fnc P w K mg base 10 "sites" (upSp ⟨K, cA⟩ spSites)) (cCk : Fnc P w K mg base 11 "check_sites" (upSp ⟨K, cA⟩ spCks)) (cWo : Fnc P w K mg base 20 "without" (upSp ⟨K, cA⟩ (starSp 1 spWo))) : Fnc P w K mg base 21 "kept" (upSp ⟨K, cA⟩ (starSp 1 spKept)) := by
  refine ⟨f, hm, F.kp, def_star (k := 20) (ps := ["reader"]) F sc_kept hbn (fun cdv A outer s H E hr => (js_cons (js_expr (j_fc cCk hr (by omega) rfl (L2N.passAt (L2N.takes_of rfl rfl rfl rfl)) (ja_cons (jv 0) (ja_cons (jv 1) ja_nil))))
    (js_cons (js_setLc (i := 2) (own := [("site", 3)]) (tt := _) (by rfl) sc_kept.nd rfl rfl (sw_true rfl rfl rfl (by decide +kernel)) (gl_name (i := 3) (by decide)) (ji_seq (j_fc cSi hr (by omega) rfl (L2N.passAt (L2N.takes_of rfl rfl rfl rfl)) (ja_cons (jv 0) ja_nil))) (blkOk_by (own := [("site", 3)]) (N := ["reader", "wanted", "left_out", "site"]) (sc := defScope s_kept) (by decide +kernel)) (fun _ _ _ _ _ => (pg_name (i := 3) sc_kept.nd rfl (Or.inl rfl))) (fun _ _ _ _ _ => (jts_one (jt_cmp (op_notInDA K (u65 hr)) os_inD (jv 3) (jv 1) rfl))) (fun _ _ _ _ _ => (jv 3)))
    (js_one (js_ret (j_fcS cWo hr (by omega) rfl (L2N.passAt (L2N.takes_of rfl rfl rfl rfl)) (ja_cons (jv 0) (ja_star (jv 2) ja_nil)))))))) ?_⟩
  intro ds S Q E h
  obtain ⟨x1, x2, rfl, r0, d, xs, eq, hr, hd, hh⟩ := opt_two h
  clear h
  cases eq
  refine seq_by fun N1 hN1 => ?_
  simp_arith [spCks]
  refine ⟨r0, d, xs, rfl, hr, hd, ?_⟩
  rcases hh with ⟨W, rfl, hW, q⟩ | ⟨L, b, rest, e, hL, hb, q⟩
  · refine .inl ⟨W, rfl, hW, hN1 _ _ (seq_by fun N2 hN2 => ?_)⟩
    clear hN1
    simp_arith [spSites]
    refine ⟨r0, d, rfl, hr, hd, ?_⟩
    try simp_arith
    have ls := sites_len hd
    have dl : dat (.tup (sitesD W)) = true := ((sites_dt hW).2.up (by decide)).dat
    refine lcX_map (fun x => !((sitesD W).any fun y => eqD y x)) (fun x => x) (by simp [sitesD]; omega) (fun x hx Y F hY hF => ?_) ?_
    · obtain ⟨s, hs, rfl⟩ := List.mem_map.mp hx
      have d1 : dat (siteD s) = true := ((site_dt (sites_ok hs)).up (by decide)).dat
      have e0 : rd S (siteD s) = siteD s := rfl
      rw [any_site] at hY hF
      simp_arith [dInD, dsv, e0, d1, dl, any_site]
      by_cases z : s ∈ W
      · rw [if_neg (by simpa using z)]
        exact hF (by simp [z])
      · rw [if_pos (by simpa using z)]
        exact hY (by simp [z])
    · have e : (List.filter (fun x => !((sitesD W).any fun y => eqD y x)) (sitesD (sitesP d))).map (fun x => x) = sitesD (keepL d W) := by
        simp only [List.map_id']
        unfold sitesD keepL
        rw [List.filter_map]
        congr 1
        refine List.filter_congr fun s _ => ?_
        have := any_site (L := W) (s := s)
        unfold sitesD at this
        show (!((W.map siteD).any fun y => eqD y (siteD s))) = _
        rw [this]
      rw [e]
      refine hN2 _ _ ?_
      clear hN2
      have lk : (keepL d W).length ≤ 120 := Nat.le_trans (List.length_filter_le _ _) ls
      simp_arith [starSp]
      refine ⟨[.ref r0], sitesD (keepL d W), by simp, rfl, big2 (by simp [sitesD]; omega), ?_⟩
      exact ⟨r0, d, _, rfl, hr, hd, .inl ⟨keepL d W, rfl, keepL_sub, q⟩⟩
  · exact .inr ⟨L, b, rest, e, hL, hb, q⟩
theorem d_fmt (D : Dfn K mg "format_of" s_fmt ["reader"] f fd) (T : Bn mg) (cKe : Fnc P w K mg base 21 "kept" (upSp ⟨K, cA⟩ (starSp 1 spKept))) : Fnc P w K mg base 22 "format_of" (upSp ⟨K, cA⟩ spFmt) := by
  refine D.fnc (def_ok (k := 21) D.F sc_fmt (fun cdv A outer s H E hr => (js_one (js_ret (j_fc cKe hr (by omega) rfl (L2N.passAt (L2N.takes_of rfl rfl rfl rfl)) (ja_cons (jv 0) ja_nil))))) ?_ ?_)
  · intro ds S Q E h
    obtain ⟨a, rfl, _⟩ := opt_one h
    rfl
  · intro ds S Q E h
    obtain ⟨x1, rfl, r0, d, rfl, hr, hd, q⟩ := opt_one h
    clear h
    simp_arith [starSp]
    refine ⟨[.ref r0], [], rfl, rfl, by decide, ?_⟩
    refine ⟨r0, d, _, rfl, hr, hd, .inl ⟨[], rfl, by simp, ?_⟩⟩
    rw [keepL_nil]
    exact q
theorem d_same (D : Dfn K mg "is_same_format" s_same ["reader", "other"] f fd) (T : Bn mg) (eRd : Own P w K mg base 2 (cA "Reader") "__eq__" (upSp ⟨K, cA⟩ spReq)) (rRd : RtO K (cA "Reader") []) (cFm : Fnc P w K mg base 22 "format_of" (upSp ⟨K, cA⟩ spFmt)) : Fnc P w K mg base 23 "is_same_format" (upSp ⟨K, cA⟩ spSame) := by
  refine D.fnc (def_ok (k := 22) D.F sc_same (fun cdv A outer s H E hr => (js_one (js_ret (j_cmp (kop_eqO eRd hr (by omega)) (os_cmpO (C := "Reader") rRd) (j_fc cFm hr (by omega) rfl (L2N.passAt (L2N.takes_of rfl rfl rfl rfl)) (ja_cons (jv 0) ja_nil)) (j_fc cFm hr (by omega) rfl (L2N.passAt (L2N.takes_of rfl rfl rfl rfl)) (ja_cons (jv 1) ja_nil)) (nomark _))))) ?_ ?_)
  · intro ds S Q E h
    obtain ⟨a, b, rfl, _⟩ := opt_two h
    rfl
  · intro ds S Q E h
    obtain ⟨x1, x2, rfl, r1, r2, d1, d2, eq, h1, h2, m1, m2, q⟩ := opt_two h
    clear h
    cases eq
    simp_arith [spFmt]
    refine ⟨r1, d1, rfl, h1, m1, ?_⟩
    have h2' : (S ++ [rdrO (bareP d1)])[r2]? = some (rdrO d2) := by rw [List.getElem?_append_left (get_lt h2)]; exact h2
    refine ⟨r2, d2, rfl, h2', m2, ?_⟩
    have i1 : (S ++ [rdrO (bareP d1)] ++ [rdrO (bareP d2)])[S.length]? = some (rdrO (bareP d1)) := by simp
    have i2 : (S ++ [rdrO (bareP d1)] ++ [rdrO (bareP d2)])[(S ++ [rdrO (bareP d1)]).length]? = some (rdrO (bareP d2)) := by simp
    have g : Gr [] S (S ++ [rdrO (bareP d1)] ++ [rdrO (bareP d2)]) := Gr.app.trans Gr.app
    generalize S ++ [rdrO (bareP d1)] ++ [rdrO (bareP d2)] = S2 at i1 i2 g ⊢
    generalize (S ++ [rdrO (bareP d1)]).length = o2 at i2 ⊢
    show dCmpO "Reader" [] spReq (.ref S.length) (.ref o2) S2 _
    unfold dCmpO
    rw [rdr_get i1]
    refine ⟨.inl ⟨_, rdr_get i2⟩, ?_⟩
    exact ⟨S.length, o2, _, _, rfl, i1, i2, wo_sm m1, wo_sm m2, q _ g⟩
end


/-! ### the law: checks of readers -/
abbrev s_lwithout : Stmt := (topS 78)
theorem sc_lwithout : FnScope ["reader", "few"] ["reader", "few"] (defScope s_lwithout) := ⟨rfl, rfl, rfl, by decide +kernel, rfl, by decide +kernel, by decide +kernel⟩
abbrev s_lkept : Stmt := (topS 79)
theorem sc_lkept : FnScope ["reader", "few"] ["reader", "few"] (defScope s_lkept) := ⟨rfl, rfl, rfl, by decide +kernel, rfl, by decide +kernel, by decide +kernel⟩
abbrev s_lwrong : Stmt := (topS 80)
theorem sc_lwrong : FnScope ["reader", "good", "bad", "other", "kind", "e"] ["reader", "good", "bad", "other"] (defScope s_lwrong) := ⟨rfl, rfl, rfl, by decide +kernel, rfl, by decide +kernel, by decide +kernel⟩
abbrev s_ltakes : Stmt := (topS 81)
theorem sc_ltakes : FnScope ["pool", "part", "reader", "checks", "few", "turn", "others", "bad", "check"] ["pool", "part"] (defScope s_ltakes) := ⟨rfl, rfl, rfl, by decide +kernel, rfl, by decide +kernel, by decide +kernel⟩
abbrev s_law : Stmt := (topS 82)
theorem sc_law : FnScope ["script", "k", "pool", "part", "other", "bare", "plain"] ["script"] (defScope s_law) := ⟨rfl, rfl, rfl, by decide +kernel, rfl, by decide +kernel, by decide +kernel⟩
def subN : Str → Str → Bool := fun _ _ => true
def spLaw : ASp := fun ds S Q _ => opt (one1 ds) fun d => ∃ ns : List Int, d = .scr ns ∧ ns.length ≤ 63 ∧ ∀ S', Q (.bl true) S'
def spLw : ASp := fun ds S Q _ => opt (two2 ds) fun e => ∃ r d x L, e = (.ref r, x) ∧ S[r]? = some (rdrO d) ∧ Sm d ∧ OutL S x L ∧ L.length ≤ 2 ∧ (∀ s ∈ L, s ∈ sitesP d) ∧ Q (.ref S.length) (S ++ [rdrO (woP L d)])
def spLk : ASp := fun ds S Q _ => opt (two2 ds) fun e => ∃ r d x L, e = (.ref r, x) ∧ S[r]? = some (rdrO d) ∧ Sm d ∧ OutL S x L ∧ L.length ≤ 2 ∧ (∀ s ∈ L, s ∈ sitesP d) ∧ Q (.ref S.length) (S ++ [rdrO (woP (keepL d L) d)])
def NeF (b : A.D) : Prop := ∀ (S : Sto) (Q : QD), Q (.bl false) S → dNe b b S Q
def spLx : ASp := fun ds S Q _ => opt (four4 ds) fun e => ∃ r d g b o, e = (.ref r, siteD g, b, o) ∧ S[r]? = some (rdrO d) ∧ Sm d ∧ g ∈ sitesP d ∧ BadS d b ∧ NeF b ∧ Q (.bl true) S
def spTakes : ASp := fun ds S Q _ => opt (two2 ds) fun e => ∃ m d, e = (.ref m, d) ∧ Pl S m ∧ Sm d ∧ countP d ≤ 8 ∧ ∀ S', Gr [m] S S' → Pl S' m → Q (.bl true) S'
theorem pool_by {ns : List Int} {k : Nat} {S : Sto} {Q : QD} {E : XQ} (hk : k ≤ 1000) (q : ∀ S', Pl S' S.length → Gr [] S S' → Q (.ref S.length) S') : spPool [.scr ns, .int k] S Q E := ⟨ns, k, rfl, hk, fun o ho => q _ ⟨o, by simp, ho⟩ Gr.app⟩
theorem outL_sv {S : Sto} {x : A.D} {L : List Site} (h : OutL S x L) : sv S x = some (sitesD L) := by
  rcases h with rfl | ⟨o, rfl, h⟩
  · rfl
  · simp [sv, h]
/-- what the law takes for no checks -/
theorem kids_cnt {n : Nat} {d : A.D} (h : Pw (n + 1) d) : ((kidsD d).length : Int) < countP d := by
  have key : ∀ {xs : List A.D}, (∀ x ∈ xs, Pw n x) → (xs.length : Int) ≤ (xs.map countP).sum := by
    intro xs
    induction xs with
    | nil => simp
    | cons x r ih =>
      intro hp
      have h1 := ih fun u hu => hp u (by simp [hu])
      have h2 := sub_len (hp x (by simp))
      have h3 : 1 ≤ (subP n x).length := by
        have := at_sub (p := []) (hp x (by simp)) trivial
        exact List.length_pos_of_mem this
      simp only [List.length_cons, List.map_cons, List.sum_cons]
      omega
  have := key fun x hx => h.kid hx
  rw [countP_eq]
  omega
theorem bad_of {d b : A.D} (h1 : dat b = true) (h2 : ∀ s ∈ sitesP d, eqD (siteD s) b = false) : BadS d b := ⟨h1, .inl h2⟩
theorem bad0 {d : A.D} (h : Sm d) (hc : countP d ≤ 8) : BadS d (.tup [.tup [.int 9, .int 9], .str "look"]) := by
  refine bad_of (by decide +kernel) fun s hs => ?_
  have : (A.D.tup [.tup [.int 9, .int 9], .str "look"]) = siteD ([9, 9], "look") := rfl
  rw [this, eq_site]
  refine decide_eq_false fun e => ?_
  subst e
  have hk := ((mem_sites h.pw).mp hs).1
  have := kids_cnt h.pw
  have h9 : (9 : Int) < (kidsD d).length := hk.2.1
  omega
theorem bad1 {d : A.D} (h : Sm d) : BadS d (.tup [.tup [], .str "needs"]) := by
  refine bad_of (by decide +kernel) fun s hs => ?_
  have : (A.D.tup [.tup [], .str "needs"]) = siteD ([], "needs") := rfl
  rw [this, eq_site]
  refine decide_eq_false fun e => ?_
  subst e
  have := own_words ((mem_sites h.pw).mp hs).2
  simp [ofString_inj] at this
theorem bad2 {d : A.D} : BadS d (.str "look") := bad_of (by decide +kernel) fun s _ => by simp [eqD, siteD, pd, PyData.eqv]
theorem bad3 {d : A.D} : BadS d .non := bad_of (by decide +kernel) fun s _ => by simp [eqD, siteD, pd, PyData.eqv]
theorem bad4 {d : A.D} : BadS d (.tup []) := bad_of (by decide +kernel) fun s _ => by simp [eqD, siteD, pd, pds, PyData.eqv, PyData.eqvAll]
theorem bad5 {d : A.D} : BadS d (.tup [.tup [.bl true], .str "look"]) := ⟨by decide +kernel, .inr ⟨[.bl true], _, rfl, by decide, by decide, by decide +kernel, by decide⟩⟩
theorem neF_tup {xs : List A.D} (h : dat (.tup xs) = true) : NeF (.tup xs) := fun S Q q => by
  rw [v_dNe_tup]
  refine ⟨⟨h, h⟩, ?_⟩
  have e : rd S (.tup xs) = .tup xs := rfl
  rw [e, eqv_dat h]
  exact q
section
variable {P : Program} {w : World} {K : PySem.W.Frag} {cA : Str → Addr} {mg : Str → Option Value} {base : Heap} {f fI pP gP : Addr} {fd : FuncData} {n k : Nat}
theorem d_lwithout (D : Dfn K mg "_law_without" s_lwithout ["reader", "few"] f fd) (T : Bn mg) (cWo : Fnc P w K mg base 20 "without" (upSp ⟨K, cA⟩ (starSp 1 spWo))) : Fnc P w K mg base 21 "_law_without" (upSp ⟨K, cA⟩ spLw) := by
  refine D.fnc (def_ok (k := 20) D.F sc_lwithout (fun cdv A outer s H E hr => (js_cons (js_if (jt_cmp (op_eqA K hr.units) os_eq (j_callB (kcall_len_seq K) cs_len (by rfl) T.len (by decide +kernel) (ja_cons (jv 1) ja_nil)) j_int (nomark _))
      (js_one (js_ret (j_fc cWo hr (by omega) rfl (L2N.passAt (L2N.takes_of rfl rfl rfl rfl)) (ja_cons (jv 0) ja_nil))))
      js_nil)
    (js_cons (js_if (jt_cmp (op_eqA K hr.units) os_eq (j_callB (kcall_len_seq K) cs_len (by rfl) T.len (by decide +kernel) (ja_cons (jv 1) ja_nil)) j_int (nomark _))
      (js_one (js_ret (j_fc cWo hr (by omega) rfl (L2N.passAt (L2N.takes_of rfl rfl rfl rfl)) (ja_cons (jv 0) (ja_cons (j_ix (kix_lt K) os_ix (jv 1) j_int (fun _ _ => rfl)) ja_nil)))))
      js_nil)
    (js_one (js_ret (j_fc cWo hr (by omega) rfl (L2N.passAt (L2N.takes_of rfl rfl rfl rfl)) (ja_cons (jv 0) (ja_cons (j_ix (kix_lt K) os_ix (jv 1) j_int (fun _ _ => rfl)) (ja_cons (j_ix (kix_lt K) os_ix (jv 1) j_int (fun _ _ => rfl)) ja_nil))))))))) ?_ ?_)
  · intro ds S Q E h
    obtain ⟨a, b, rfl, _⟩ := opt_two h
    rfl
  · intro ds S Q E h
    obtain ⟨x1, x, rfl, r, d, x', L, eq, hr, hd, hx, hl, hL, q⟩ := opt_two h
    clear h
    cases eq
    have es := outL_sv hx
    match L, hl, hL, es, q with
    | [], _, hL, es, q =>
      simp_arith [es, sitesD, starSp]
      exact ⟨[.ref r], [], rfl, rfl, by decide, r, d, _, rfl, hr, hd, .inl ⟨[], rfl, by simp, q⟩⟩
    | [s], _, hL, es, q =>
      simp_arith [es, sitesD, starSp]
      exact ⟨[.ref r], [siteD s], rfl, rfl, big2 (by simp), r, d, _, rfl, hr, hd, .inl ⟨[s], rfl, hL, q⟩⟩
    | [s, t], _, hL, es, q =>
      simp_arith [es, sitesD, starSp]
      exact ⟨[.ref r], [siteD s, siteD t], rfl, rfl, big2 (by simp), r, d, _, rfl, hr, hd, .inl ⟨[s, t], rfl, hL, q⟩⟩
    | _ :: _ :: _ :: _, hl, _, _, _ => simp at hl
theorem d_lkept (D : Dfn K mg "_law_kept" s_lkept ["reader", "few"] f fd) (T : Bn mg) (cKe : Fnc P w K mg base 21 "kept" (upSp ⟨K, cA⟩ (starSp 1 spKept))) : Fnc P w K mg base 22 "_law_kept" (upSp ⟨K, cA⟩ spLk) := by
  refine D.fnc (def_ok (k := 21) D.F sc_lkept (fun cdv A outer s H E hr => (js_cons (js_if (jt_cmp (op_eqA K hr.units) os_eq (j_callB (kcall_len_seq K) cs_len (by rfl) T.len (by decide +kernel) (ja_cons (jv 1) ja_nil)) j_int (nomark _))
      (js_one (js_ret (j_fc cKe hr (by omega) rfl (L2N.passAt (L2N.takes_of rfl rfl rfl rfl)) (ja_cons (jv 0) ja_nil))))
      js_nil)
    (js_cons (js_if (jt_cmp (op_eqA K hr.units) os_eq (j_callB (kcall_len_seq K) cs_len (by rfl) T.len (by decide +kernel) (ja_cons (jv 1) ja_nil)) j_int (nomark _))
      (js_one (js_ret (j_fc cKe hr (by omega) rfl (L2N.passAt (L2N.takes_of rfl rfl rfl rfl)) (ja_cons (jv 0) (ja_cons (j_ix (kix_lt K) os_ix (jv 1) j_int (fun _ _ => rfl)) ja_nil)))))
      js_nil)
    (js_one (js_ret (j_fc cKe hr (by omega) rfl (L2N.passAt (L2N.takes_of rfl rfl rfl rfl)) (ja_cons (jv 0) (ja_cons (j_ix (kix_lt K) os_ix (jv 1) j_int (fun _ _ => rfl)) (ja_cons (j_ix (kix_lt K) os_ix (jv 1) j_int (fun _ _ => rfl)) ja_nil))))))))) ?_ ?_)
  · intro ds S Q E h
    obtain ⟨a, b, rfl, _⟩ := opt_two h
    rfl
  · intro ds S Q E h
    obtain ⟨x1, x, rfl, r, d, x', L, eq, hr, hd, hx, hl, hL, q⟩ := opt_two h
    clear h
    cases eq
    have es := outL_sv hx
    match L, hl, hL, es, q with
    | [], _, hL, es, q =>
      simp_arith [es, sitesD, starSp]
      exact ⟨[.ref r], [], rfl, rfl, by decide, r, d, _, rfl, hr, hd, .inl ⟨[], rfl, by simp, q⟩⟩
    | [s], _, hL, es, q =>
      simp_arith [es, sitesD, starSp]
      exact ⟨[.ref r], [siteD s], rfl, rfl, big2 (by simp), r, d, _, rfl, hr, hd, .inl ⟨[s], rfl, hL, q⟩⟩
    | [s, t], _, hL, es, q =>
      simp_arith [es, sitesD, starSp]
      exact ⟨[.ref r], [siteD s, siteD t], rfl, rfl, big2 (by simp), r, d, _, rfl, hr, hd, .inl ⟨[s, t], rfl, hL, q⟩⟩
    | _ :: _ :: _ :: _, hl, _, _, _ => simp at hl
theorem d_lwrong {xNoWord : XCls P K mg "NoWord" (cA "NoWord") "value"} (hx : PySem.W.exmOne K (.ref (cA "NoWord")) (.ref (cA "NoWord")) = some true) (D : Dfn K mg "_law_wrong" s_lwrong ["reader", "good", "bad", "other"] f fd) (T : Bn mg) (cWo : Fnc P w K mg base 20 "without" (upSp ⟨K, cA⟩ (starSp 1 spWo))) (cKe : Fnc P w K mg base 21 "kept" (upSp ⟨K, cA⟩ (starSp 1 spKept))) : Fnc P w K mg base 22 "_law_wrong" (upSp ⟨K, cA⟩ spLx) := by
  have hxf : ∀ C ∈ (["NoWord"] : List Str), XfC K (cA C) ∧ PySem.W.findIn K (.ref (cA C)) "value" = some none := by
    intro C hC
    simp at hC
    subst hC
    exact ⟨xNoWord.xf, xNoWord.noF⟩
  refine D.fnc (def_ok (k := 21) D.F sc_lwrong (fun cdv A outer s H E hr => (js_cons (js_for (vs := [0, 1, 2, 3, 4, 5]) (gl_name (i := 4) (by decide)) (passes_of rfl) rfl (ji_range1 rfl T.range (ja_cons j_int ja_nil)) (pg_name (i := 4) sc_lwrong.nd rfl (Or.inl rfl))
      (js_cons (js_try (Cs := ["NoWord"]) (sub := subN) rfl rfl (L2N.takes_of rfl rfl rfl rfl) (fun W pn xe tk pz => (js_one (js_if (jt_cmp (op_eqA K hr.units) os_eq (jv 4) j_int (nomark _))
          (js_one (js_expr (j_fc cWo hr (by omega) rfl (L2N.passAt tk) (ja_cons (jv 0) (ja_cons (jv 2) ja_nil)))))
          (js_one (js_if (jt_cmp (op_eqA K hr.units) os_eq (jv 4) j_int (nomark _))
            (js_one (js_expr (j_fc cKe hr (by omega) rfl (L2N.passAt tk) (ja_cons (jv 0) (ja_cons (jv 2) (ja_cons (jv 3) ja_nil))))))
            (js_one (js_if (jt_cmp (op_eqA K hr.units) os_eq (jv 4) j_int (nomark _))
              (js_one (js_expr (j_fc cWo hr (by omega) rfl (L2N.passAt tk) (ja_cons (jv 0) (ja_cons (jv 1) (ja_cons (jv 2) (ja_cons (jv 3) ja_nil)))))))
              (js_one (js_expr (j_fc cKe hr (by omega) rfl (L2N.passAt tk) (ja_cons (jv 0) (ja_cons (jv 1) (ja_cons (jv 2) ja_nil)))))))))))))
        (JH.named (c := ⟨"NoWord", some 5, fun _ _ => sSeq _ _⟩) rfl sc_lwrong.nd rfl rfl ⟨rfl, by decide, (Or.inl xNoWord.gC)⟩ (fun a oe cls d pn x hz hf => (js_cons (u := sCont) (js_if (jt_cmp (op_neA K hr.units) os_ne (j_xf (Cs := ["NoWord"]) hxf hz hf (jv 5)) (jv 2) (nomark _))
            (js_one (js_ret j_bl))
            js_nil)
          (js_one js_continue)))
          JH.done) (fun C hC c hc => by simp at hC hc; subst hC hc; exact hx))
      (js_one (js_ret j_bl))))
    (js_one (js_ret j_bl)))) ?_ ?_)
  · intro ds S Q E h
    obtain ⟨a, b, c, d, rfl, _⟩ := opt_four h
    rfl
  · intro ds S Q E h
    obtain ⟨x1, x2, b, o, rfl, r, d, g, b', o', eq, hr, hd, hg, hb, hn, q⟩ := opt_four h
    clear h
    cases eq
    refine seq_by fun N1 hN1 => ?_
    simp_arith
    refine ⟨by decide, ?_⟩
    refine forX_by (fun r' ρ S' => S' = S ∧ (∀ y ∈ r', ∃ k : Nat, k ≤ 3 ∧ y = A.D.int k) ∧ ∃ a c, ρ = [some (.ref r), some (siteD g), some b, some o, a, c]) ?_ ?_ ⟨rfl, ?_, none, none, rfl⟩
    · rintro ρ S1 ⟨rfl, _, a, c, rfl⟩
      refine hN1 _ _ ?_
      simp_arith
      exact q
    · rintro x r' ρ S1 ⟨rfl, hk, a, c, rfl⟩ F hF
      obtain ⟨k, hk3, rfl⟩ := hk x (by simp)
      have hr' : ∀ y ∈ r', ∃ k : Nat, k ≤ 3 ∧ y = A.D.int k := fun y hy => hk y (by simp [hy])
      have fin : ∀ a' : Nat, F [some (.ref r), some (siteD g), some b, some o, some (.int k), none] S1 := fun _ => hF _ _ ⟨rfl, hr', _, _, rfl⟩
      unfold gN
      refine seq_by fun N2 hN2 => ?_
      clear hN2
      have k4 : k = 0 ∨ k = 1 ∨ k = 2 ∨ k = 3 := by omega
      rcases k4 with rfl | rfl | rfl | rfl
      · simp_arith [subN, starSp]
        refine ⟨[.ref r], [b], rfl, rfl, big2 (by simp), r, d, _, rfl, hr, hd, .inr ⟨[], b, [], rfl, by simp, hb, ?_⟩⟩
        refine ⟨by simp, fun ad => ?_⟩
        simp_arith [List.zip_cons_cons, List.lookup, ofString_beq]
        refine ⟨by simp, ?_⟩
        refine hn _ _ ?_
        simp_arith
        exact fin 0
      · simp_arith [subN, starSp]
        refine ⟨[.ref r], [b, o], rfl, rfl, big2 (by simp), r, d, _, rfl, hr, hd, .inr ⟨[], b, [o], rfl, by simp, hb, ?_⟩⟩
        refine ⟨by simp, fun ad => ?_⟩
        simp_arith [List.zip_cons_cons, List.lookup, ofString_beq]
        refine ⟨by simp, ?_⟩
        refine hn _ _ ?_
        simp_arith
        exact fin 0
      · simp_arith [subN, starSp]
        refine ⟨[.ref r], [siteD g, b, o], rfl, rfl, big2 (by simp), r, d, _, rfl, hr, hd, .inr ⟨[g], b, [o], rfl, by simpa using hg, hb, ?_⟩⟩
        refine ⟨by simp, fun ad => ?_⟩
        simp_arith [List.zip_cons_cons, List.lookup, ofString_beq]
        refine ⟨by simp, ?_⟩
        refine hn _ _ ?_
        simp_arith
        exact fin 0
      · simp_arith [subN, starSp]
        refine ⟨[.ref r], [siteD g, b], rfl, rfl, big2 (by simp), r, d, _, rfl, hr, hd, .inr ⟨[g], b, [], rfl, by simpa using hg, hb, ?_⟩⟩
        refine ⟨by simp, fun ad => ?_⟩
        simp_arith [List.zip_cons_cons, List.lookup, ofString_beq]
        refine ⟨by simp, ?_⟩
        refine hn _ _ ?_
        simp_arith
        exact fin 0
    · intro y hy
      simp only [rng, List.mem_map, List.mem_range] at hy
      obtain ⟨i, hi, rfl⟩ := hy
      exact ⟨i, by omega, by simp⟩
end


/-! ### the law: what it takes -/
theorem neF_sm {d : A.D} (h : Sm d) : NeF d := by
  obtain ⟨fs, et, _⟩ := tup_of h.pw.shp
  have := h.dt.dat
  rw [et] at this ⊢
  exact neF_tup this
theorem less_by {S : Sto} {d x : A.D} {L : List Site} {Q : QD} {E : XQ} (h : Sm d) (hx : OutL S x L) (hL : ∀ s ∈ L, s ∈ sitesP d) (q : Q (woP L d) S) : spLess 8 [d, .tup [], x] S Q E :=
  ⟨d, [], x, L, rfl, h.pw, by decide, by decide, hx, fun s hs => sites_ok (hL s hs), fun q x hq => (mem_sites h.pw).mp (hL _ (by simpa using hq)), by rw [← wo_less h hL]; exact q⟩
theorem chk_by {S : Sto} {d : A.D} {Q : QD} {E : XQ} (h : Sm d) (q : Q (.lst (sitesD (sitesP d))) S) : spChk 8 [d, .tup []] S Q E :=
  ⟨d, [], rfl, h.pw, by have := h.cnt; omega, by decide, by rw [siteQ_nil]; exact q⟩
theorem ne_sites {d : A.D} {S : Sto} {Q : QD} (q : Q (.bl false) S) : dNe (.lst (sitesD (sitesP d))) (.lst (sitesD (sitesP d))) S Q := by
  have dk : dat (.lst (sitesD (sitesP d))) = true := ((sites_dt (d := d) fun s hs => hs).1.up (by decide)).dat
  rw [v_dNe_lst]
  refine ⟨⟨dk, dk⟩, ?_⟩
  have e : rd S (.lst (sitesD (sitesP d))) = .lst (sitesD (sitesP d)) := rfl
  rw [e, eqv_dat dk]
  exact q
theorem at6 {x : Int} (h0 : 0 ≤ x) (h6 : x < 6) {a b c d e f : A.D} {p : A.D → Prop} (ha : p a) (hb : p b) (hc : p c) (hd : p d) (he : p e) (hf : p f) : ∃ y, atI [a, b, c, d, e, f] x = some y ∧ p y := by
  have : x = 0 ∨ x = 1 ∨ x = 2 ∨ x = 3 ∨ x = 4 ∨ x = 5 := by omega
  rcases this with rfl | rfl | rfl | rfl | rfl | rfl
  · exact ⟨_, rfl, ha⟩
  · exact ⟨_, rfl, hb⟩
  · exact ⟨_, rfl, hc⟩
  · exact ⟨_, rfl, hd⟩
  · exact ⟨_, rfl, he⟩
  · exact ⟨_, rfl, hf⟩
section
variable {P : Program} {w : World} {K : PySem.W.Frag} {cA : Str → Addr} {mg : Str → Option Value} {base : Heap} {f fI pP gP : Addr} {fd : FuncData} {n k : Nat}
theorem d_ltakes (D : Dfn K mg "_law_takes" s_ltakes ["pool", "part"] f fd) (T : Bn mg) (cD : Fnc P w K mg base 1 "_law_draw" (upSp ⟨K, cA⟩ spDraw)) (cCh : Fnc P w K mg base 9 "_law_checks" (upSp ⟨K, cA⟩ (spChk 8))) (cLe : Fnc P w K mg base 9 "_law_less" (upSp ⟨K, cA⟩ (spLess 8))) (cLw : Fnc P w K mg base 21 "_law_without" (upSp ⟨K, cA⟩ spLw)) (cLk : Fnc P w K mg base 22 "_law_kept" (upSp ⟨K, cA⟩ spLk)) (cLx : Fnc P w K mg base 22 "_law_wrong" (upSp ⟨K, cA⟩ spLx))
    (cSi : Fnc P w K mg base 10 "sites" (upSp ⟨K, cA⟩ spSites)) (cFm : Fnc P w K mg base 22 "format_of" (upSp ⟨K, cA⟩ spFmt)) (cSa : Fnc P w K mg base 23 "is_same_format" (upSp ⟨K, cA⟩ spSame)) (mRd : Mkr P w K mg base 18 "Reader" (cA "Reader") (upSp ⟨K, cA⟩ spRinit)) (pPart : Prp P w K mg base 1 (cA "Reader") "part" (upSp ⟨K, cA⟩ spRpart)) : Fnc P w K mg base 24 "_law_takes" (upSp ⟨K, cA⟩ spTakes) := by
  refine D.fnc (def_ok (k := 23) D.F sc_ltakes (fun cdv A outer s H E hr => (js_cons (js_set (i := 2) sc_ltakes.nd rfl (Or.inl rfl) (j_nw (C := "Reader") mRd hr (by omega) rfl (L2N.passAt (L2N.takes_of rfl rfl rfl rfl)) (ja_cons (jv 1) ja_nil)))
    (js_cons (js_set (i := 3) sc_ltakes.nd rfl (Or.inl rfl) (j_fc cCh hr (by omega) rfl (L2N.passAt (L2N.takes_of rfl rfl rfl rfl)) (ja_cons (jv 1) (ja_cons (j_tup ja_nil) ja_nil))))
    (js_cons (js_if (JW.jt (jw_or (jt_cmp (op_neA K hr.units) os_ne (j_fc cSi hr (by omega) rfl (L2N.passAt (L2N.takes_of rfl rfl rfl rfl)) (ja_cons (jv 2) ja_nil)) (jv 3) (nomark _)) (jw_or1 (jt_cmp (op_neA K hr.units) os_ne (j_pr (C := "Reader") pPart hr (by omega) (j_fc cFm hr (by omega) rfl (L2N.passAt (L2N.takes_of rfl rfl rfl rfl)) (ja_cons (jv 2) ja_nil))) (j_fc cLe hr (by omega) rfl (L2N.passAt (L2N.takes_of rfl rfl rfl rfl)) (ja_cons (jv 1) (ja_cons (j_tup ja_nil) (ja_cons (jv 3) ja_nil)))) (nomark _)))))
      (js_one (js_ret j_bl))
      js_nil)
    (js_cons (js_set (i := 4) sc_ltakes.nd rfl (Or.inr rfl) (j_lstM ja_nil))
    (js_cons (js_for (vs := [0, 1, 2, 3, 4, 5, 6, 7, 8]) (gl_name (i := 5) (by decide)) (passes_of rfl) rfl (ji_range1 rfl T.range (ja_cons (j_fc cD hr (by omega) rfl (L2N.passAt (L2N.takes_of rfl rfl rfl rfl)) (ja_cons (jv 0) (ja_cons j_int ja_nil))) ja_nil)) (pg_name (i := 5) sc_ltakes.nd rfl (Or.inl rfl))
      (js_one (js_if (jt_cmp (op_neA K hr.units) os_ne (jv 3) (j_lst ja_nil) (nomark _))
        (js_one (js_expr (j_append (jv 4) (ja_cons (j_ix (kix_lt K) os_ix (jv 3) (j_fc cD hr (by omega) rfl (L2N.passAt (L2N.takes_of rfl rfl rfl rfl)) (ja_cons (jv 0) (ja_cons (j_callB (kcall_len_seq K) cs_len (by rfl) T.len (by decide +kernel) (ja_cons (jv 3) ja_nil)) ja_nil))) (fun _ _ => rfl)) ja_nil))))
        js_nil)))
    (js_cons (js_if (jt_cmp (op_neA K hr.units) os_ne (j_pr (C := "Reader") pPart hr (by omega) (j_fc cLw hr (by omega) rfl (L2N.passAt (L2N.takes_of rfl rfl rfl rfl)) (ja_cons (jv 2) (ja_cons (jv 4) ja_nil)))) (j_fc cLe hr (by omega) rfl (L2N.passAt (L2N.takes_of rfl rfl rfl rfl)) (ja_cons (jv 1) (ja_cons (j_tup ja_nil) (ja_cons (jv 4) ja_nil)))) (nomark _))
      (js_one (js_ret j_bl))
      js_nil)
    (js_cons (js_setLc (i := 6) (own := [("check", 8)]) (tt := _) (by rfl) sc_ltakes.nd rfl rfl (sw_true rfl rfl rfl (by decide +kernel)) (gl_name (i := 8) (by decide)) (ji_seq (jv 3)) (blkOk_by (own := [("check", 8)]) (N := ["pool", "part", "reader", "checks", "few", "turn", "others", "bad", "check"]) (sc := defScope s_ltakes) (by decide +kernel)) (fun _ _ _ _ _ => (pg_name (i := 8) sc_ltakes.nd rfl (Or.inl rfl))) (fun _ _ _ _ _ => (jts_one (jt_cmp (op_notInDA K (u65 hr)) os_inD (jv 8) (jv 4) rfl))) (fun _ _ _ _ _ => (jv 8)))
    (js_cons (js_if (JW.jt (jw_or (jt_cmp (op_neA K hr.units) os_ne (j_pr (C := "Reader") pPart hr (by omega) (j_fc cLk hr (by omega) rfl (L2N.passAt (L2N.takes_of rfl rfl rfl rfl)) (ja_cons (jv 2) (ja_cons (jv 4) ja_nil)))) (j_fc cLe hr (by omega) rfl (L2N.passAt (L2N.takes_of rfl rfl rfl rfl)) (ja_cons (jv 1) (ja_cons (j_tup ja_nil) (ja_cons (jv 6) ja_nil)))) (nomark _)) (jw_or1 (jt_cmp (op_neA K hr.units) os_ne (j_pr (C := "Reader") pPart hr (by omega) (jv 2)) (jv 1) (nomark _)))))
      (js_one (js_ret j_bl))
      js_nil)
    (js_cons (js_if (JW.jt (jw_or (jt_not (jt_val (j_fc cSa hr (by omega) rfl (L2N.passAt (L2N.takes_of rfl rfl rfl rfl)) (ja_cons (jv 2) (ja_cons (j_fc cLk hr (by omega) rfl (L2N.passAt (L2N.takes_of rfl rfl rfl rfl)) (ja_cons (jv 2) (ja_cons (jv 4) ja_nil))) ja_nil))))) (jw_or1 (jt_cmp (op_neA K hr.units) os_ne (j_fc cSi hr (by omega) rfl (L2N.passAt (L2N.takes_of rfl rfl rfl rfl)) (ja_cons (j_fc cFm hr (by omega) rfl (L2N.passAt (L2N.takes_of rfl rfl rfl rfl)) (ja_cons (jv 2) ja_nil)) ja_nil)) (j_lst ja_nil) (nomark _)))))
      (js_one (js_ret j_bl))
      js_nil)
    (js_cons (js_set (i := 7) sc_ltakes.nd rfl (Or.inl rfl) (j_ix (kix_lt K) os_ix (j_lst (ja_cons (j_tup (ja_cons (j_tup (ja_cons j_int (ja_cons j_int ja_nil))) (ja_cons j_str ja_nil))) (ja_cons (j_tup (ja_cons (j_tup ja_nil) (ja_cons j_str ja_nil))) (ja_cons j_str (ja_cons j_non (ja_cons (j_tup ja_nil) (ja_cons (j_tup (ja_cons (j_tup (ja_cons j_bl ja_nil)) (ja_cons j_str ja_nil))) ja_nil))))))) (j_fc cD hr (by omega) rfl (L2N.passAt (L2N.takes_of rfl rfl rfl rfl)) (ja_cons (jv 0) (ja_cons j_int ja_nil))) (fun _ _ => rfl)))
    (js_one (js_ret (j_or (j_cmp (op_eqA K hr.units) os_eq (jv 3) (j_lst ja_nil) (nomark _)) (j_one (j_fc cLx hr (by omega) rfl (L2N.passAt (L2N.takes_of rfl rfl rfl rfl)) (ja_cons (jv 2) (ja_cons (j_ix (kix_lt K) os_ix (jv 3) j_int (fun _ _ => rfl)) (ja_cons (jv 7) (ja_cons (j_tup (ja_cons (j_tup (ja_cons j_int ja_nil)) (ja_cons j_str ja_nil))) ja_nil)))))))))))))))))))) ?_ ?_)
  · intro ds S Q E h
    obtain ⟨a, b, rfl, _⟩ := opt_two h
    rfl
  · intro ds S Q E h
    obtain ⟨x1, d, rfl, m, d', eq, hp, hd, hc8, q⟩ := opt_two h
    clear h
    cases eq
    have ls := sites_len hd
    have dk : dat (.lst (sitesD (sitesP d))) = true := ((sites_dt (d := d) fun s hs => hs).1.up (by decide)).dat
    have hm := get_lt hp.choose_spec.1
    refine seq_by fun N1 hN1 => ?_
    simp_arith
    refine rinit_by hd.dt hd.wp ?_
    try simp_arith
    refine hN1 _ _ (seq_by fun N2 hN2 => ?_)
    clear hN1
    have i1 : (S ++ [rdrO d])[S.length]? = some (rdrO d) := by simp
    have p1 : Pl (S ++ [rdrO d]) m := hp.gr (ms := []) Gr.app (by simp)
    have g1 : Gr [m] S (S ++ [rdrO d]) := Gr.app
    have m1 : m ≠ S.length := by omega
    generalize S ++ [rdrO d] = S1 at i1 p1 g1 ⊢
    generalize S.length = R at i1 m1 ⊢
    simp_arith
    refine chk_by hd ?_
    try simp_arith
    refine hN2 _ _ (seq_by fun N3 hN3 => ?_)
    clear hN2
    simp_arith [spSites]
    refine ⟨R, d, rfl, i1, hd, ?_⟩
    try simp_arith
    refine ⟨⟨dk, dk⟩, ?_⟩
    simp_arith [eqv_dat dk, spFmt]
    refine ⟨R, d, rfl, i1, hd, ?_⟩
    have i2 : (S1 ++ [rdrO (bareP d)])[S1.length]? = some (rdrO (bareP d)) := by simp
    have j2 : (S1 ++ [rdrO (bareP d)])[R]? = some (rdrO d) := by rw [List.getElem?_append_left (get_lt i1)]; exact i1
    have p2 : Pl (S1 ++ [rdrO (bareP d)]) m := p1.gr (ms := []) Gr.app (by simp)
    have g2 : Gr [m] S (S1 ++ [rdrO (bareP d)]) := g1.trans Gr.app
    generalize S1 ++ [rdrO (bareP d)] = S2 at i2 j2 p2 g2 ⊢
    generalize S1.length = o2 at i2 ⊢
    simp_arith [rdr_get i2, spRpart, List.lookup, ofString_beq]
    refine less_by hd (.inl rfl) (fun s hs => hs) ?_
    refine neF_sm (wo_sm hd) _ _ ?_
    simp_arith
    refine hN3 _ _ (seq_by fun N4 hN4 => ?_)
    clear hN3
    simp_arith
    refine hN4 _ _ (seq_by fun N5 hN5 => ?_)
    clear hN4
    have o3 : (S2 ++ [O.lst []])[S2.length]? = some (.lst []) := by simp
    have j3 : (S2 ++ [O.lst []])[R]? = some (rdrO d) := by rw [List.getElem?_append_left (get_lt j2)]; exact j2
    have p3 : Pl (S2 ++ [O.lst []]) m := p2.gr (ms := []) Gr.app (by simp)
    have g3 : Gr [m] S (S2 ++ [O.lst []]) := g2.trans Gr.app
    have lR := get_lt j2
    have lm := get_lt p2.choose_spec.1
    have lS : S.length ≤ S2.length := g2.1
    generalize S2 ++ [O.lst []] = S3 at o3 j3 p3 g3 ⊢
    have f1 : S2.length ≠ R := by omega
    have f2 : S2.length ≠ m := by omega
    generalize S2.length = fe at o3 f1 f2 lS ⊢
    simp_arith
    refine draw_by p3 (by decide) (by decide) fun t S4 t0 t1 g4 p4 => ?_
    simp_arith
    refine ⟨⟨by omega, by omega⟩, ?_⟩
    refine forX_by (fun r ρ S' => ∃ (L : List Site) (y : _), L.length + r.length ≤ 2 ∧ (∀ s ∈ L, s ∈ sitesP d) ∧ ρ = [some (.ref m), some d, some (.ref R), some (.lst (sitesD (sitesP d))), some (.ref fe), y, none, none, none] ∧ S'[fe]? = some (.lst (sitesD L)) ∧ S'[R]? = some (rdrO d) ∧ Pl S' m ∧ Gr [m] S S') ?_ ?_ ⟨[], _, by simp [rng]; omega, by simp, rfl, g4.get (by simpa using f2) o3, g4.get (by simp; omega) j3, p4, g3.trans g4⟩
    · rintro ρ S5 ⟨L, y, hl, hL, rfl, o5, j5, p5, g5⟩
      have hl : L.length ≤ 2 := by simpa using hl
      refine hN5 _ _ (seq_by fun N6 hN6 => ?_)
      clear hN5
      simp_arith [spLw]
      refine ⟨R, d, _, L, rfl, j5, hd, .inr ⟨fe, rfl, o5⟩, hl, hL, ?_⟩
      have k6 : (S5 ++ [rdrO (woP L d)])[S5.length]? = some (rdrO (woP L d)) := by simp
      have o6 : (S5 ++ [rdrO (woP L d)])[fe]? = some (.lst (sitesD L)) := by rw [List.getElem?_append_left (get_lt o5)]; exact o5
      have j6 : (S5 ++ [rdrO (woP L d)])[R]? = some (rdrO d) := by rw [List.getElem?_append_left (get_lt j5)]; exact j5
      have p6 : Pl (S5 ++ [rdrO (woP L d)]) m := p5.gr (ms := []) Gr.app (by simp)
      have g6 : Gr [m] S (S5 ++ [rdrO (woP L d)]) := g5.trans Gr.app
      generalize S5 ++ [rdrO (woP L d)] = S6 at k6 o6 j6 p6 g6 ⊢
      generalize S5.length = o at k6 ⊢
      simp_arith [rdr_get k6, spRpart, List.lookup, ofString_beq]
      refine less_by hd (.inr ⟨fe, rfl, o6⟩) hL ?_
      refine neF_sm (wo_sm hd) _ _ ?_
      simp_arith
      refine hN6 _ _ (seq_by fun N7 hN7 => ?_)
      clear hN6
      simp_arith
      refine lcX_map (fun x => !((sitesD L).any fun y => eqD y x)) (fun x => x) (by simp [sitesD]; omega) (fun x hx Y F hY hF => ?_) ?_
      · obtain ⟨s, hs, rfl⟩ := List.mem_map.mp hx
        rw [any_site] at hY hF
        simp_arith
        refine inL_by (.inr ⟨fe, rfl, o6⟩) (fun s hs => sites_ok (hL s hs)) (sites_ok hs) ?_
        simp_arith
        by_cases z : s ∈ L
        · rw [if_neg (by simpa using z)]
          exact hF (by simp [z])
        · rw [if_pos (by simpa using z)]
          exact hY (by simp [z])
      · have e : (List.filter (fun x => !((sitesD L).any fun y => eqD y x)) (sitesD (sitesP d))).map (fun x => x) = sitesD (keepL d L) := by
          simp only [List.map_id']
          unfold sitesD keepL
          rw [List.filter_map]
          congr 1
          refine List.filter_congr fun s _ => ?_
          have := any_site (L := L) (s := s)
          unfold sitesD at this
          show (!((L.map siteD).any fun y => eqD y (siteD s))) = _
          rw [this]
        rw [e]
        refine hN7 _ _ (seq_by fun N8 hN8 => ?_)
        clear hN7 e
        simp_arith [spLk]
        refine ⟨R, d, _, L, rfl, j6, hd, .inr ⟨fe, rfl, o6⟩, hl, hL, ?_⟩
        have k7 : (S6 ++ [rdrO (woP (keepL d L) d)])[S6.length]? = some (rdrO (woP (keepL d L) d)) := by simp
        have o7 : (S6 ++ [rdrO (woP (keepL d L) d)])[fe]? = some (.lst (sitesD L)) := by rw [List.getElem?_append_left (get_lt o6)]; exact o6
        have j7 : (S6 ++ [rdrO (woP (keepL d L) d)])[R]? = some (rdrO d) := by rw [List.getElem?_append_left (get_lt j6)]; exact j6
        have p7 : Pl (S6 ++ [rdrO (woP (keepL d L) d)]) m := p6.gr (ms := []) Gr.app (by simp)
        have g7 : Gr [m] S (S6 ++ [rdrO (woP (keepL d L) d)]) := g6.trans Gr.app
        generalize S6 ++ [rdrO (woP (keepL d L) d)] = S7 at k7 o7 j7 p7 g7 ⊢
        generalize S6.length = o at k7 ⊢
        simp_arith [rdr_get k7, spRpart, List.lookup, ofString_beq]
        refine less_by hd (.inl rfl) keepL_sub ?_
        refine neF_sm (wo_sm hd) _ _ ?_
        simp_arith [rdr_get j7]
        refine neF_sm hd _ _ ?_
        simp_arith
        refine hN8 _ _ (seq_by fun N9 hN9 => ?_)
        clear hN8
        simp_arith [spLk]
        refine ⟨R, d, _, L, rfl, j7, hd, .inr ⟨fe, rfl, o7⟩, hl, hL, ?_⟩
        have k8 : (S7 ++ [rdrO (woP (keepL d L) d)])[S7.length]? = some (rdrO (woP (keepL d L) d)) := by simp
        have j8 : (S7 ++ [rdrO (woP (keepL d L) d)])[R]? = some (rdrO d) := by rw [List.getElem?_append_left (get_lt j7)]; exact j7
        have p8 : Pl (S7 ++ [rdrO (woP (keepL d L) d)]) m := p7.gr (ms := []) Gr.app (by simp)
        have g8 : Gr [m] S (S7 ++ [rdrO (woP (keepL d L) d)]) := g7.trans Gr.app
        generalize S7 ++ [rdrO (woP (keepL d L) d)] = S8 at k8 j8 p8 g8 ⊢
        generalize S7.length = o at k8 ⊢
        simp_arith [spSame]
        refine ⟨R, o, d, _, rfl, j8, k8, hd, wo_sm hd, fun S9 g9 => ?_⟩
        have j9 := g9.get (by simp) j8
        have p9 : Pl S9 m := p8.gr g9 (by simp)
        have g9' : Gr [m] S S9 := g8.trans (g9.up (by simp))
        rw [bare_wo hd, eqv_dat (show Sm (bareP d) from wo_sm hd).dt.dat]
        simp_arith [spFmt]
        refine ⟨R, d, rfl, j9, hd, ?_⟩
        have ka : (S9 ++ [rdrO (bareP d)])[S9.length]? = some (rdrO (bareP d)) := by simp
        have ja : (S9 ++ [rdrO (bareP d)])[R]? = some (rdrO d) := by rw [List.getElem?_append_left (get_lt j9)]; exact j9
        have pa : Pl (S9 ++ [rdrO (bareP d)]) m := p9.gr (ms := []) Gr.app (by simp)
        have ga : Gr [m] S (S9 ++ [rdrO (bareP d)]) := g9'.trans Gr.app
        generalize S9 ++ [rdrO (bareP d)] = Sa at ka ja pa ga ⊢
        generalize S9.length = o' at ka ⊢
        simp_arith [spSites]
        refine ⟨o', _, rfl, ka, wo_sm hd, ?_⟩
        rw [show sitesP (bareP d) = [] from wo_none hd]
        simp_arith [sitesD, d_nil, eqL_nil]
        refine hN9 _ _ (seq_by fun Nb hNb => ?_)
        clear hN9
        simp_arith
        refine draw_by pa (by decide) (by decide) fun t Sb t0 t1 gb pb => ?_
        have jb := gb.get (by simp; omega) ja
        obtain ⟨bad, eb, hb, hne⟩ := at6 (p := fun b => BadS d b ∧ NeF b) t0 t1 ⟨bad0 hd hc8, neF_tup (bad0 hd hc8).1⟩ ⟨bad1 hd, neF_tup (bad1 hd).1⟩ ⟨bad2, fun S Q q => by rw [v_dNe_str_str]; simpa using q⟩ ⟨bad3, fun S Q q => by rw [v_dNe_non_non]; simpa using q⟩ ⟨bad4, neF_tup (bad4 (d := d)).1⟩ ⟨bad5, neF_tup (bad5 (d := d)).1⟩
        simp_arith [eb]
        refine hNb _ _ ?_
        clear hNb
        have gb' : Gr [m] S Sb := ga.trans gb
        simp_arith [dk, d_nil, eqL_nil]
        cases hs : sitesP d with
        | nil =>
          simp_arith [sitesD]
          exact ⟨d_nil, q _ gb' pb⟩
        | cons s L' =>
          have hsd : s ∈ sitesP d := by rw [hs]; simp
          simp_arith [sitesD, spLx]
          refine ⟨by have := dk; rw [hs] at this; simpa [sitesD] using this, ?_⟩
          exact ⟨R, d, s, bad, _, rfl, jb, hd, hsd, hb, hne, q _ gb' pb⟩
    · rintro x r ρ S5 ⟨L, y, hl, hL, rfl, o5, j5, p5, g5⟩ F hF
      have lt := get_lt o5
      unfold gN
      by_cases z : sitesP d = []
      · have z2 : sitesD (sitesP d) = [] := by simp [sitesD, z]
        simp_arith [dk, d_nil, eqL_nil, z2]
        rw [← z2]
        exact hF _ _ ⟨L, _, by simp at hl ⊢; omega, hL, rfl, o5, j5, p5, g5⟩
      · have z2 : ¬ sitesD (sitesP d) = [] := by simpa [sitesD] using z
        have zl : 0 < (sitesP d).length := List.length_pos_iff.mpr z
        simp_arith [dk, d_nil, eqL_nil, z2, lstAt_of o5]
        have e0 : ((sitesD (sitesP d)).length : Int) = (sitesP d).length := by simp [sitesD]
        refine draw_by (c := ((sitesD (sitesP d)).length : Int)) p5 (by omega) (by omega) fun t S6 t0 t1 g6 p6 => ?_
        have t1' : t < (sitesP d).length := by omega
        have o6 := g6.get (by simpa using f2) o5
        have j6 := g6.get (by simp; omega) j5
        have l6 := get_lt o6
        have e1 : atI (sitesD (sitesP d)) t = some (siteD ((sitesP d)[t.toNat]'(by omega))) := by
          have := atD (xs := sitesD (sitesP d)) (j := t.toNat) (x := siteD ((sitesP d)[t.toNat]'(by omega))) (by unfold sitesD; rw [List.getElem?_map, List.getElem?_eq_getElem (by omega)]; rfl)
          rwa [show ((t.toNat : Nat) : Int) = t by omega] at this
        have hmem : (sitesP d)[t.toNat]'(by omega) ∈ sitesP d := List.getElem_mem _
        generalize (sitesP d)[t.toNat]'(by omega) = s at e1 hmem
        simp_arith [e1, lstAt_of o6]
        refine ⟨Nat.lt_of_le_of_lt (m := 2) (by simp [sitesD] at hl ⊢; omega) (by decide), ?_⟩
        refine hF _ _ ⟨L ++ [s], _, by simp at hl ⊢; omega, fun y hy => ?_, rfl, by rw [List.getElem?_set_self l6]; simp [sitesD], by rw [List.getElem?_set_ne f1]; exact j6, p6.gr (ms := [fe]) (Chg.at).gr (by simp; exact fun e => f2 e.symm), ?_⟩
        · rcases List.mem_append.mp hy with hy | hy
          · exact hL y hy
          · simp at hy; subst hy; exact hmem
        · exact (((g5.trans g6).up (ns := [m, fe]) (by simp)).trans ((Chg.at (m := fe)).gr.up (ns := [m, fe]) (by simp))).up fun k hk hl' => by simp at hk ⊢; omega
theorem d_law (D : Dfn K mg "law" s_law ["script"] f fd) (T : Bn mg) (cPo : Fnc P w K mg base 1 "_law_pool" (upSp ⟨K, cA⟩ spPool)) (cP : ∀ h, h ≤ 8 → Fnc P w K mg base (2 * h + 3) "_law_part" (upSp ⟨K, cA⟩ (spPart h))) (cTa : Fnc P w K mg base 24 "_law_takes" (upSp ⟨K, cA⟩ spTakes)) (cCh : Fnc P w K mg base 9 "_law_checks" (upSp ⟨K, cA⟩ (spChk 8))) (cLe : Fnc P w K mg base 9 "_law_less" (upSp ⟨K, cA⟩ (spLess 8)))
    (cSa : Fnc P w K mg base 23 "is_same_format" (upSp ⟨K, cA⟩ spSame)) (mRd : Mkr P w K mg base 18 "Reader" (cA "Reader") (upSp ⟨K, cA⟩ spRinit)) :
    FnOk P w K mg base (L2N.CX P w) 26 f fd ["script"] (upSp ⟨K, cA⟩ spLaw) := by
  refine def_ok (k := 25) D.F sc_law (fun cdv A outer s H E hr => (js_cons (js_for (vs := [0, 1, 2, 3, 4, 5, 6]) (gl_name (i := 1) (by decide)) (passes_of rfl) rfl (ji_range1 rfl T.range (ja_cons (j_callB (call_max2 rfl) cs_max2 (by rfl) T.max (by decide +kernel) (ja_cons j_int (ja_cons (j_callB (call_min2 rfl) cs_min2 (by rfl) T.min (by decide +kernel) (ja_cons (j_callB (kcall_len_seq K) cs_len (by rfl) T.len (by decide +kernel) (ja_cons (jv 0) ja_nil)) (ja_cons j_int ja_nil))) ja_nil))) ja_nil)) (pg_name (i := 1) sc_law.nd rfl (Or.inl rfl))
      (js_cons (js_set (i := 2) sc_law.nd rfl (Or.inl rfl) (j_fc cPo hr (by omega) rfl (L2N.passAt (L2N.takes_of rfl rfl rfl rfl)) (ja_cons (jv 0) (ja_cons (jv 1) ja_nil))))
      (js_cons (js_set (i := 3) sc_law.nd rfl (Or.inl rfl) (j_fc (cP 7 (by decide)) hr (by omega) rfl (L2N.passAt (L2N.takes_of rfl rfl rfl rfl)) (ja_cons (jv 2) (ja_cons (j_lstM (ja_cons j_int ja_nil)) (ja_cons j_int (ja_cons j_int (ja_cons j_bl ja_nil)))))))
      (js_cons (js_if (jt_not (jt_val (j_fc cTa hr (by omega) rfl (L2N.passAt (L2N.takes_of rfl rfl rfl rfl)) (ja_cons (jv 2) (ja_cons (jv 3) ja_nil)))))
        (js_one (js_ret j_bl))
        js_nil)
      (js_cons (js_set (i := 4) sc_law.nd rfl (Or.inl rfl) (j_fc (cP 7 (by decide)) hr (by omega) rfl (L2N.passAt (L2N.takes_of rfl rfl rfl rfl)) (ja_cons (jv 2) (ja_cons (j_lstM (ja_cons j_int ja_nil)) (ja_cons j_int (ja_cons j_int (ja_cons j_bl ja_nil)))))))
      (js_cons (js_parU (i := 5) (j := 6) (.inl rfl) sc_law.nd rfl rfl (by decide) rfl rfl (ja_cons (j_fc cLe hr (by omega) rfl (L2N.passAt (L2N.takes_of rfl rfl rfl rfl)) (ja_cons (jv 3) (ja_cons (j_tup ja_nil) (ja_cons (j_fc cCh hr (by omega) rfl (L2N.passAt (L2N.takes_of rfl rfl rfl rfl)) (ja_cons (jv 3) (ja_cons (j_tup ja_nil) ja_nil))) ja_nil)))) (ja_cons (j_fc cLe hr (by omega) rfl (L2N.passAt (L2N.takes_of rfl rfl rfl rfl)) (ja_cons (jv 4) (ja_cons (j_tup ja_nil) (ja_cons (j_fc cCh hr (by omega) rfl (L2N.passAt (L2N.takes_of rfl rfl rfl rfl)) (ja_cons (jv 4) (ja_cons (j_tup ja_nil) ja_nil))) ja_nil)))) ja_nil)) (by rfl))
      (js_one (js_if (jt_cmp (op_neA K hr.units) os_ne (j_fc cSa hr (by omega) rfl (L2N.passAt (L2N.takes_of rfl rfl rfl rfl)) (ja_cons (j_nw (C := "Reader") mRd hr (by omega) rfl (L2N.passAt (L2N.takes_of rfl rfl rfl rfl)) (ja_cons (jv 3) ja_nil)) (ja_cons (j_nw (C := "Reader") mRd hr (by omega) rfl (L2N.passAt (L2N.takes_of rfl rfl rfl rfl)) (ja_cons (jv 4) ja_nil)) ja_nil))) (j_cmp (op_eqA K hr.units) os_eq (jv 5) (jv 6) (nomark _)) (nomark _))
        (js_one (js_ret j_bl))
        js_nil))))))))
    (js_one (js_ret j_bl)))) ?_ ?_
  · intro ds S Q E h
    obtain ⟨a, rfl, _⟩ := opt_one h
    rfl
  · intro ds S Q E h
    obtain ⟨d, rfl, ns, rfl, hl, q⟩ := opt_one h
    clear h
    refine seq_by fun N2 hN2 => ?_
    simp_arith
    have hlen : ((if (if 24 < ((List.map A.D.int ns).length : Int) then (24 : Int) else ((List.map A.D.int ns).length : Int)) > 1 then if 24 < ((List.map A.D.int ns).length : Int) then (24 : Int) else ((List.map A.D.int ns).length : Int) else 1) : Int) ≤ 40 ∧ 1 ≤ ((if (if 24 < ((List.map A.D.int ns).length : Int) then (24 : Int) else ((List.map A.D.int ns).length : Int)) > 1 then if 24 < ((List.map A.D.int ns).length : Int) then (24 : Int) else ((List.map A.D.int ns).length : Int) else 1) : Int) := by
      simp only [List.length_map]
      split <;> split <;> omega
    generalize (if (if 24 < ((List.map A.D.int ns).length : Int) then (24 : Int) else ((List.map A.D.int ns).length : Int)) > 1 then if 24 < ((List.map A.D.int ns).length : Int) then (24 : Int) else ((List.map A.D.int ns).length : Int) else 1) = L at hlen ⊢
    refine ⟨⟨by omega, by omega⟩, ?_⟩
    refine forX_by (fun r ρ _ => (∀ x ∈ r, ∃ k : Nat, k ≤ 1000 ∧ x = .int k) ∧ ∃ a b c d e g, ρ = [some (.scr ns), a, b, c, d, e, g]) ?_ ?_ ⟨?_, _, none, none, none, none, none, rfl⟩
    · rintro ρ S1 ⟨_, a, b, c, d, e, g, rfl⟩
      refine hN2 _ _ ?_
      simp_arith
      exact q _
    · rintro x r' ρ S1 ⟨hx, a, b, c, d, e, g, rfl⟩ F hF
      obtain ⟨k, hk, rfl⟩ := hx x (by simp)
      have hr : ∀ x ∈ r', ∃ k : Nat, k ≤ 1000 ∧ x = A.D.int k := fun x hx' => hx x (List.mem_cons_of_mem _ hx')
      have small : ∀ {dd : A.D} {R4 B : Int}, Gp false 7 dd → 0 ≤ R4 → countP dd + R4 = B → B ≤ 8 → Sm dd ∧ countP dd ≤ 8 := fun {dd R4 B} gp hR4 hc4 hB => by
        obtain ⟨w1, w2, w3⟩ := gp_small gp (by decide) (by omega)
        refine ⟨⟨w2, by omega, ?_⟩, by omega⟩
        have hu := gp.unr
        have h1 := Int.mul_le_mul_of_nonneg_left (pow2_le (show 7 ≤ 7 by decide)) (show 0 ≤ countP dd by have := gp.cnt; omega)
        have e : (2 : Int) ^ 7 = 128 := by decide
        rw [e] at h1 hu
        omega
      unfold gN
      refine seq_by fun N3 hN3 => ?_
      try simp_arith
      refine pool_by hk fun S2 p2 _ => hN3 _ _ (seq_by fun N4 hN4 => ?_)
      clear hN3
      generalize S1.length = m at p2 ⊢
      simp_arith
      have o3 : RmAt (S2 ++ [O.lst [A.D.int 8]]) S2.length 8 := by simp [RmAt]
      have p3 : Pl (S2 ++ [O.lst [A.D.int 8]]) m := p2.gr (ms := []) Gr.app (by simp)
      have hm := get_lt p2.choose_spec.1
      generalize S2 ++ [O.lst [A.D.int 8]] = S3 at o3 p3 ⊢
      refine ⟨m, S2.length, 0, 0, 8, false, rfl, p3, o3, by decide, by decide, by decide, fun d1 S4 R4 g4 p4 r4 hR4 hc4 gp => ?_⟩
      obtain ⟨s1, c1⟩ := small gp hR4 hc4 (by decide)
      refine hN4 _ _ (seq_by fun N5 hN5 => ?_)
      clear hN4
      simp_arith [spTakes]
      refine ⟨m, d1, rfl, p4, s1, c1, fun S5 g5 p5 => ?_⟩
      try simp_arith
      refine hN5 _ _ (seq_by fun N6 hN6 => ?_)
      clear hN5
      simp_arith
      have o6 : RmAt (S5 ++ [O.lst [A.D.int 3]]) S5.length 3 := by simp [RmAt]
      have p6 : Pl (S5 ++ [O.lst [A.D.int 3]]) m := p5.gr (ms := []) Gr.app (by simp)
      generalize S5 ++ [O.lst [A.D.int 3]] = S6 at o6 p6 ⊢
      refine ⟨m, S5.length, 0, 0, 3, false, rfl, p6, o6, by decide, by decide, by decide, fun d2 S7 R7 g7 p7 r7 hR7 hc7 gp2 => ?_⟩
      obtain ⟨s2, c2⟩ := small gp2 hR7 hc7 (by decide)
      refine hN6 _ _ (seq_by fun N8 hN8 => ?_)
      clear hN6
      simp_arith
      refine chk_by s1 ?_
      try simp_arith
      refine less_by s1 (.inl rfl) (fun s hs => hs) ?_
      try simp_arith
      refine chk_by s2 ?_
      try simp_arith
      refine less_by s2 (.inl rfl) (fun s hs => hs) ?_
      try simp_arith
      refine hN8 _ _ ?_
      clear hN8
      simp_arith
      refine rinit_by s1.dt s1.wp ?_
      try simp_arith
      refine rinit_by s2.dt s2.wp ?_
      try simp_arith
      have i1 : (S7 ++ [rdrO d1] ++ [rdrO d2])[S7.length]? = some (rdrO d1) := by simp
      have i2 : (S7 ++ [rdrO d1] ++ [rdrO d2])[(S7 ++ [rdrO d1]).length]? = some (rdrO d2) := by simp
      generalize S7 ++ [rdrO d1] ++ [rdrO d2] = S8 at i1 i2 ⊢
      refine ⟨_, _, d1, d2, rfl, i1, i2, s1, s2, fun S9 g9 => ?_⟩
      have a1 := (show Sm (bareP d1) from wo_sm s1).dt.dat
      have a2 := (show Sm (bareP d2) from wo_sm s2).dt.dat
      have eqq : ∀ {Q : QD}, Q (.bl (eqD (bareP d1) (bareP d2))) S9 → dEq (woP (sitesP d1) d1) (woP (sitesP d2) d2) S9 Q := fun {Q} q => by
        show dEq (bareP d1) (bareP d2) S9 Q
        obtain ⟨fs, et, _⟩ := tup_of (show Sm (bareP d1) from wo_sm s1).pw.shp
        obtain ⟨fs2, et2, _⟩ := tup_of (show Sm (bareP d2) from wo_sm s2).pw.shp
        generalize bareP d1 = b1 at et a1 q ⊢
        generalize bareP d2 = b2 at et2 a2 q ⊢
        generalize kdOf b1 = k1 at et
        generalize kdOf b2 = k2 at et2
        subst et et2
        rw [v_dEq_tup]
        exact ⟨⟨a1, a2⟩, by simpa only [bxf, v_rd_tup] using q⟩
      try simp_arith
      refine eqq ?_
      try simp_arith
      exact hF _ _ ⟨hr, _, _, _, _, _, _, rfl⟩
    · intro x hx
      simp only [rng, List.mem_map, List.mem_range] at hx
      obtain ⟨i, hi, rfl⟩ := hx
      exact ⟨i, by omega, by simp⟩
end


section
variable {P : Program} {w : World} {K : PySem.W.Frag} {cA : Str → Addr} {mg : Str → Option Value} {base : Heap}
theorem prog_rd {f_whole f_betw f_oneof f_option f_options f_most f_icell f_ilimit f_form f_children f_size f_asks f_wrong f_count f_unroll f_wpath f_cpart f_rinit : Addr} {fd_whole fd_betw fd_oneof fd_option fd_options fd_most fd_icell fd_ilimit fd_form fd_children fd_size fd_asks fd_wrong fd_count fd_unroll fd_wpath fd_cpart fd_rinit : FuncData} {pP gP aH aL aR aM : Addr} (T : Bn mg) (M : Cst K w mg aH aL aR aM) (D_whole : Dfn K mg "is_whole" s_whole ["thing"] f_whole fd_whole) (D_betw : Dfn K mg "is_between" s_betw ["thing", "low", "high"] f_betw fd_betw) (D_oneof : Dfn K mg "is_one_of" s_oneof ["thing", "words"] f_oneof fd_oneof) (D_option : Dfn K mg "is_option" s_option ["thing", "last"] f_option fd_option) (D_options : Dfn K mg "are_options" s_options ["thing"] f_options fd_options) (D_most : Dfn K mg "is_most" s_most ["thing", "greatest"] f_most fd_most) (D_icell : Dfn K mg "is_cell" s_icell ["low", "high", "how"] f_icell fd_icell) (D_ilimit : Dfn K mg "is_limit" s_ilimit ["how", "most", "limit", "rest"] f_ilimit fd_ilimit) (D_form : Dfn K mg "has_form" s_form ["thing"] f_form fd_form) (D_children : Dfn K mg "children" s_children ["part"] f_children fd_children) (D_size : Dfn K mg "size_of" s_size ["part"] f_size fd_size) (D_asks : Dfn K mg "asks" s_asks ["part"] f_asks fd_asks) (D_wrong : Dfn K mg "first_wrong" s_wrong ["part", "path"] f_wrong fd_wrong) (D_count : Dfn K mg "count_of" s_count ["part"] f_count fd_count) (D_unroll : Dfn K mg "unrolled" s_unroll ["part"] f_unroll fd_unroll) (D_wpath : Dfn K mg "wrong_path" s_wpath ["thing"] f_wpath fd_wpath) (D_cpart : Dfn K mg "check_part" s_cpart ["thing"] f_cpart fd_cpart) (D_rinit : MDf K "__init__" "Reader.__init__" s_rinit ["self", "part"] f_rinit fd_rinit) (G_Reader : mg "Reader" = some (.ref (cA "Reader"))) (c_Reader : Cls K (cA "Reader")) (n_Reader_own_part : NoAttr K (cA "Reader") "own_part") (n_Reader_own_level : NoAttr K (cA "Reader") "own_level") (m_rinit : Mk K (cA "Reader") f_rinit) (r_part : PropOf K (cA "Reader") "part" pP gP) (xNoPart : XCls P K mg "NoPart" (cA "NoPart") "path") : Mkr P w K mg base 18 "Reader" (cA "Reader") (upSp ⟨K, cA⟩ spRinit) := by
  have R : Rdr K cA mg f_rinit pP gP := ⟨⟨c_Reader, n_Reader_own_part⟩, ⟨c_Reader, n_Reader_own_level⟩, m_rinit, G_Reader, r_part⟩
  have cW := d_whole (P := P) (w := w) (base := base) (cA := cA) D_whole T
  have cB := d_betw D_betw T cW
  have cO := d_oneof (P := P) (w := w) (base := base) (cA := cA) D_oneof T
  have cOp := d_option D_option T cB
  have cM := d_most D_most T cB
  have cIc := d_icell D_icell T M cB cO
  have cL := d_ilimit D_ilimit T M cM cO
  have cOs := d_options D_options T cOp
  have cH := d_form D_form T M cB cO cM cIc cOs cL
  have cC := d_children (P := P) (w := w) (base := base) (cA := cA) D_children T
  have cS : ∀ m, Fnc P w K mg base (m + 1) "size_of" (upSp ⟨K, cA⟩ (spSize m)) := fun m => by
    induction m with
    | zero => exact D_size.never (fun ds S Q E h => by obtain ⟨d, rfl, h, _⟩ := opt_one h; cases h)
    | succ m ih => exact d_size D_size T cC ih
  have cA1 : ∀ m, Fnc P w K mg base (m + 1) "asks" (upSp ⟨K, cA⟩ (spAsks m)) := fun m => by
    induction m with
    | zero => exact D_asks.never (fun ds S Q E h => by obtain ⟨d, rfl, h, _⟩ := opt_one h; cases h)
    | succ m ih => exact d_asks D_asks T cC ih
  have cN : ∀ m, Fnc P w K mg base (m + 1) "count_of" (upSp ⟨K, cA⟩ (spCount m)) := fun m => by
    induction m with
    | zero => exact D_count.never (fun ds S Q E h => by obtain ⟨d, rfl, h, _⟩ := opt_one h; cases h)
    | succ m ih => exact d_count D_count T cC ih
  have cU : ∀ m, Fnc P w K mg base (m + 1) "unrolled" (upSp ⟨K, cA⟩ (spUnroll m)) := fun m => by
    induction m with
    | zero => exact D_unroll.never (fun ds S Q E h => by obtain ⟨d, rfl, h, _⟩ := opt_one h; cases h)
    | succ m ih => exact d_unroll D_unroll T cC ih
  have cF : ∀ m, Fnc P w K mg base (m + 6) "first_wrong" (upSp ⟨K, cA⟩ (spW m)) := fun m => by
    induction m with
    | zero => exact D_wrong.never fun _ _ _ _ h => h
    | succ m ih => exact d_wrong D_wrong T M cC cH cS cA1 ih
  have cWp := d_wpath D_wpath T M (cF 9) (cN 8) (cU 8)
  have cCp := d_cpart (xN := xNoPart) D_cpart T cWp
  have mR := d_rinit D_rinit T R cCp
  exact mR
theorem law_size {f_lchildren f_lsize : Addr} {fd_lchildren fd_lsize : FuncData} (T : Bn mg) (D_lchildren : Dfn K mg "_law_children" s_lchildren ["part"] f_lchildren fd_lchildren) (D_lsize : Dfn K mg "_law_size" s_lsize ["part"] f_lsize fd_lsize) : ∀ m, Fnc P w K mg base (m + 1) "_law_size" (upSp ⟨K, cA⟩ (spSize m)) := fun m => by
  have cC := d_lchildren (P := P) (w := w) (base := base) (cA := cA) D_lchildren T
  induction m with
  | zero => exact D_lsize.never (fun ds S Q E h => by obtain ⟨d, rfl, h, _⟩ := opt_one h; cases h)
  | succ m ih => exact d_lsize D_lsize T cC ih
theorem law_part {f_pool f_draw f_lleaf f_lopts f_lctd f_lwth f_lpart : Addr} {fd_pool fd_draw fd_lleaf fd_lopts fd_lctd fd_lwth fd_lpart : FuncData} (T : Bn mg) (D_pool : Dfn K mg "_law_pool" s_pool ["script", "k"] f_pool fd_pool) (D_draw : Dfn K mg "_law_draw" s_draw ["pool", "count"] f_draw fd_draw) (D_lleaf : Dfn K mg "_law_leaf" s_lleaf ["pool", "how", "told"] f_lleaf fd_lleaf) (D_lopts : Dfn K mg "_law_options" s_lopts ["pool", "room", "depth", "limits", "told"] f_lopts fd_lopts) (D_lctd : Dfn K mg "_law_counted" s_lctd ["pool", "how", "room", "depth", "limits", "told"] f_lctd fd_lctd) (D_lwth : Dfn K mg "_law_within" s_lwth ["pool", "how", "room", "depth", "limits"] f_lwth fd_lwth) (D_lpart : Dfn K mg "_law_part" s_lpart ["pool", "room", "depth", "limits", "told"] f_lpart fd_lpart) (cS : ∀ m, Fnc P w K mg base (m + 1) "_law_size" (upSp ⟨K, cA⟩ (spSize m))) : Fnc P w K mg base 1 "_law_pool" (upSp ⟨K, cA⟩ spPool) ∧ Fnc P w K mg base 1 "_law_draw" (upSp ⟨K, cA⟩ spDraw) ∧ ∀ h, h ≤ 8 → Fnc P w K mg base (2 * h + 3) "_law_part" (upSp ⟨K, cA⟩ (spPart h)) := by
  have cD := d_draw (P := P) (w := w) (base := base) (cA := cA) D_draw T
  have cL := d_lleaf D_lleaf T cD
  refine ⟨d_pool D_pool T, cD, fun h => ?_⟩
  induction h with
  | zero => exact fun _ => D_lpart.never fun _ _ _ _ h => h
  | succ h ih =>
    intro hh
    have g := ih (by omega)
    exact d_lpart D_lpart T (by omega) cD cL g (d_lopts D_lopts T (by omega) (by omega) cD g) (d_lctd D_lctd T (by omega) (by omega) cD (cS h) g) (d_lwth D_lwth T (by omega) cD g)
end


theorem all_mk {l : PySem.W.OpenLaw} {w : World} {K : PySem.W.Frag} {h : Heap} {mg : Str → Option Value} {fa f_whole f_betw f_oneof f_option f_options f_most f_icell f_ilimit f_form f_children f_size f_asks f_wrong f_count f_unroll f_wpath f_cpart f_lchildren f_lsize f_pool f_draw f_lleaf f_lopts f_lctd f_lwth f_lpart f_sub f_childM f_partat f_wkids f_repl f_haspath f_howix f_wfield f_ownw f_sites f_woword f_cksites f_without f_kept f_fmt f_same f_lchecks f_lfield f_lless f_lwithout f_lkept f_lwrong f_ltakes f_law f_rinit f_rpart f_req p_rpart a_Reader a_NoPart a_NoWord : Addr} {t1 t2 t3 t4 : Tok} {ckH ckL ckRe ckM : Value} {dkH dkL dkRe dkM : Option Addr} {ikH ikL ikRe : Array Value} {mkH mkL mkRe mkM : Nat} {skH skL skRe skM : Array (Option Value)} {ekM : Array DictEntry} {aH aL aR aM pP gP : Addr} {aE aE2 : Addr} {ckE ckF : Value} {dkE dkF : Option Addr} {ikE ikF : Array Value} {mkE mkF : Nat} {skE skF : Array (Option Value)}
    {od_whole an_whole od_betw an_betw od_oneof an_oneof od_option an_option od_options an_options od_most an_most od_icell an_icell od_ilimit an_ilimit od_form an_form od_children an_children od_size an_size od_asks an_asks od_wrong an_wrong od_count an_count od_unroll an_unroll od_wpath an_wpath od_cpart an_cpart od_lchildren an_lchildren od_lsize an_lsize od_pool an_pool od_draw an_draw od_lleaf an_lleaf od_lopts an_lopts od_lctd an_lctd od_lwth an_lwth od_lpart an_lpart od_sub an_sub od_childM an_childM od_partat an_partat od_wkids an_wkids od_repl an_repl od_haspath an_haspath od_howix an_howix od_wfield an_wfield od_ownw an_ownw od_sites an_sites od_woword an_woword od_cksites an_cksites od_without an_without od_kept an_kept od_fmt an_fmt od_same an_same od_lchecks an_lchecks od_lfield an_lfield od_lless an_lless od_lwithout an_lwithout od_lkept an_lkept od_lwrong an_lwrong od_ltakes an_ltakes od_law an_law od_rinit an_rinit od_rpart an_rpart od_req an_req : Option Addr} {sl_whole sl_betw sl_oneof sl_option sl_options sl_most sl_icell sl_ilimit sl_form sl_children sl_size sl_asks sl_wrong sl_count sl_unroll sl_wpath sl_cpart sl_lchildren sl_lsize sl_pool sl_draw sl_lleaf sl_lopts sl_lctd sl_lwth sl_lpart sl_sub sl_childM sl_partat sl_wkids sl_repl sl_haspath sl_howix sl_wfield sl_ownw sl_sites sl_woword sl_cksites sl_without sl_kept sl_fmt sl_same sl_lchecks sl_lfield sl_lless sl_lwithout sl_lkept sl_lwrong sl_ltakes sl_law sl_rinit sl_rpart sl_req : Array (Option Value)} {oc_whole kV_whole dc_whole pm_whole cd_whole ct_whole oc_betw kV_betw dc_betw pm_betw cd_betw ct_betw oc_oneof kV_oneof dc_oneof pm_oneof cd_oneof ct_oneof oc_option kV_option dc_option pm_option cd_option ct_option oc_options kV_options dc_options pm_options cd_options ct_options oc_most kV_most dc_most pm_most cd_most ct_most oc_icell kV_icell dc_icell pm_icell cd_icell ct_icell oc_ilimit kV_ilimit dc_ilimit pm_ilimit cd_ilimit ct_ilimit oc_form kV_form dc_form pm_form cd_form ct_form oc_children kV_children dc_children pm_children cd_children ct_children oc_size kV_size dc_size pm_size cd_size ct_size oc_asks kV_asks dc_asks pm_asks cd_asks ct_asks oc_wrong kV_wrong dc_wrong pm_wrong cd_wrong ct_wrong oc_count kV_count dc_count pm_count cd_count ct_count oc_unroll kV_unroll dc_unroll pm_unroll cd_unroll ct_unroll oc_wpath kV_wpath dc_wpath pm_wpath cd_wpath ct_wpath oc_cpart kV_cpart dc_cpart pm_cpart cd_cpart ct_cpart oc_lchildren kV_lchildren dc_lchildren pm_lchildren cd_lchildren ct_lchildren oc_lsize kV_lsize dc_lsize pm_lsize cd_lsize ct_lsize oc_pool kV_pool dc_pool pm_pool cd_pool ct_pool oc_draw kV_draw dc_draw pm_draw cd_draw ct_draw oc_lleaf kV_lleaf dc_lleaf pm_lleaf cd_lleaf ct_lleaf oc_lopts kV_lopts dc_lopts pm_lopts cd_lopts ct_lopts oc_lctd kV_lctd dc_lctd pm_lctd cd_lctd ct_lctd oc_lwth kV_lwth dc_lwth pm_lwth cd_lwth ct_lwth oc_lpart kV_lpart dc_lpart pm_lpart cd_lpart ct_lpart oc_sub kV_sub dc_sub pm_sub cd_sub ct_sub oc_childM kV_childM dc_childM pm_childM cd_childM ct_childM oc_partat kV_partat dc_partat pm_partat cd_partat ct_partat oc_wkids kV_wkids dc_wkids pm_wkids cd_wkids ct_wkids oc_repl kV_repl dc_repl pm_repl cd_repl ct_repl oc_haspath kV_haspath dc_haspath pm_haspath cd_haspath ct_haspath oc_howix kV_howix dc_howix pm_howix cd_howix ct_howix oc_wfield kV_wfield dc_wfield pm_wfield cd_wfield ct_wfield oc_ownw kV_ownw dc_ownw pm_ownw cd_ownw ct_ownw oc_sites kV_sites dc_sites pm_sites cd_sites ct_sites oc_woword kV_woword dc_woword pm_woword cd_woword ct_woword oc_cksites kV_cksites dc_cksites pm_cksites cd_cksites ct_cksites oc_without kV_without dc_without pm_without cd_without ct_without oc_kept kV_kept dc_kept pm_kept cd_kept ct_kept oc_fmt kV_fmt dc_fmt pm_fmt cd_fmt ct_fmt oc_same kV_same dc_same pm_same cd_same ct_same oc_lchecks kV_lchecks dc_lchecks pm_lchecks cd_lchecks ct_lchecks oc_lfield kV_lfield dc_lfield pm_lfield cd_lfield ct_lfield oc_lless kV_lless dc_lless pm_lless cd_lless ct_lless oc_lwithout kV_lwithout dc_lwithout pm_lwithout cd_lwithout ct_lwithout oc_lkept kV_lkept dc_lkept pm_lkept cd_lkept ct_lkept oc_lwrong kV_lwrong dc_lwrong pm_lwrong cd_lwrong ct_lwrong oc_ltakes kV_ltakes dc_ltakes pm_ltakes cd_ltakes ct_ltakes oc_law kV_law dc_law pm_law cd_law ct_law oc_rinit kV_rinit dc_rinit pm_rinit cd_rinit ct_rinit oc_rpart kV_rpart dc_rpart pm_rpart cd_rpart ct_rpart oc_req kV_req dc_req pm_req cd_req ct_req : Value}
    (X : K.In h) (G : h.Ns mainGlobals mg) (hfa : mg "law" = some (.ref fa))
    (a_whole : PySem.W.nsIn K mainGlobals "is_whole" = some (some (.ref f_whole)))
    (a_betw : PySem.W.nsIn K mainGlobals "is_between" = some (some (.ref f_betw)))
    (a_oneof : PySem.W.nsIn K mainGlobals "is_one_of" = some (some (.ref f_oneof)))
    (a_option : PySem.W.nsIn K mainGlobals "is_option" = some (some (.ref f_option)))
    (a_options : PySem.W.nsIn K mainGlobals "are_options" = some (some (.ref f_options)))
    (a_most : PySem.W.nsIn K mainGlobals "is_most" = some (some (.ref f_most)))
    (a_icell : PySem.W.nsIn K mainGlobals "is_cell" = some (some (.ref f_icell)))
    (a_ilimit : PySem.W.nsIn K mainGlobals "is_limit" = some (some (.ref f_ilimit)))
    (a_form : PySem.W.nsIn K mainGlobals "has_form" = some (some (.ref f_form)))
    (a_children : PySem.W.nsIn K mainGlobals "children" = some (some (.ref f_children)))
    (a_size : PySem.W.nsIn K mainGlobals "size_of" = some (some (.ref f_size)))
    (a_asks : PySem.W.nsIn K mainGlobals "asks" = some (some (.ref f_asks)))
    (a_wrong : PySem.W.nsIn K mainGlobals "first_wrong" = some (some (.ref f_wrong)))
    (a_count : PySem.W.nsIn K mainGlobals "count_of" = some (some (.ref f_count)))
    (a_unroll : PySem.W.nsIn K mainGlobals "unrolled" = some (some (.ref f_unroll)))
    (a_wpath : PySem.W.nsIn K mainGlobals "wrong_path" = some (some (.ref f_wpath)))
    (a_cpart : PySem.W.nsIn K mainGlobals "check_part" = some (some (.ref f_cpart)))
    (a_lchildren : PySem.W.nsIn K mainGlobals "_law_children" = some (some (.ref f_lchildren)))
    (a_lsize : PySem.W.nsIn K mainGlobals "_law_size" = some (some (.ref f_lsize)))
    (a_pool : PySem.W.nsIn K mainGlobals "_law_pool" = some (some (.ref f_pool)))
    (a_draw : PySem.W.nsIn K mainGlobals "_law_draw" = some (some (.ref f_draw)))
    (a_lleaf : PySem.W.nsIn K mainGlobals "_law_leaf" = some (some (.ref f_lleaf)))
    (a_lopts : PySem.W.nsIn K mainGlobals "_law_options" = some (some (.ref f_lopts)))
    (a_lctd : PySem.W.nsIn K mainGlobals "_law_counted" = some (some (.ref f_lctd)))
    (a_lwth : PySem.W.nsIn K mainGlobals "_law_within" = some (some (.ref f_lwth)))
    (a_lpart : PySem.W.nsIn K mainGlobals "_law_part" = some (some (.ref f_lpart)))
    (a_sub : PySem.W.nsIn K mainGlobals "subparts" = some (some (.ref f_sub)))
    (a_childM : PySem.W.nsIn K mainGlobals "children" = some (some (.ref f_childM)))
    (a_partat : PySem.W.nsIn K mainGlobals "part_at" = some (some (.ref f_partat)))
    (a_wkids : PySem.W.nsIn K mainGlobals "with_children" = some (some (.ref f_wkids)))
    (a_repl : PySem.W.nsIn K mainGlobals "replaced" = some (some (.ref f_repl)))
    (a_haspath : PySem.W.nsIn K mainGlobals "has_path" = some (some (.ref f_haspath)))
    (a_howix : PySem.W.nsIn K mainGlobals "how_index" = some (some (.ref f_howix)))
    (a_wfield : PySem.W.nsIn K mainGlobals "with_field" = some (some (.ref f_wfield)))
    (a_ownw : PySem.W.nsIn K mainGlobals "own_words" = some (some (.ref f_ownw)))
    (a_sites : PySem.W.nsIn K mainGlobals "sites" = some (some (.ref f_sites)))
    (a_woword : PySem.W.nsIn K mainGlobals "without_word" = some (some (.ref f_woword)))
    (a_cksites : PySem.W.nsIn K mainGlobals "check_sites" = some (some (.ref f_cksites)))
    (a_without : PySem.W.nsIn K mainGlobals "without" = some (some (.ref f_without)))
    (a_kept : PySem.W.nsIn K mainGlobals "kept" = some (some (.ref f_kept)))
    (a_fmt : PySem.W.nsIn K mainGlobals "format_of" = some (some (.ref f_fmt)))
    (a_same : PySem.W.nsIn K mainGlobals "is_same_format" = some (some (.ref f_same)))
    (a_lchecks : PySem.W.nsIn K mainGlobals "_law_checks" = some (some (.ref f_lchecks)))
    (a_lfield : PySem.W.nsIn K mainGlobals "_law_field" = some (some (.ref f_lfield)))
    (a_lless : PySem.W.nsIn K mainGlobals "_law_less" = some (some (.ref f_lless)))
    (a_lwithout : PySem.W.nsIn K mainGlobals "_law_without" = some (some (.ref f_lwithout)))
    (a_lkept : PySem.W.nsIn K mainGlobals "_law_kept" = some (some (.ref f_lkept)))
    (a_lwrong : PySem.W.nsIn K mainGlobals "_law_wrong" = some (some (.ref f_lwrong)))
    (a_ltakes : PySem.W.nsIn K mainGlobals "_law_takes" = some (some (.ref f_ltakes)))
    (a_law : PySem.W.nsIn K mainGlobals "law" = some (some (.ref f_law)))
    (g_Reader : PySem.W.nsIn K mainGlobals "Reader" = some (some (.ref a_Reader)))
    (c_Reader : Cls K a_Reader)
    (n_Reader_own_part : NoAttr K a_Reader "own_part")
    (n_Reader_own_level : NoAttr K a_Reader "own_level")
    (m_rinit : Mk K a_Reader f_rinit)
    (m_rpart : PropOf K a_Reader "part" p_rpart f_rpart)
    (m_req : PySem.W.findIn K (.ref a_Reader) "__eq__" = some (some (.ref f_req)))
    (i_req : PySem.W.isFn K (.ref f_req) = true)
    (xNoWord : XCls l.prog K mg "NoWord" a_NoWord "value")
    (i_Reader : C8.InsC K a_Reader)
    (h_NoWord : PySem.W.exmOne K (.ref a_NoWord) (.ref a_NoWord) = some true)
    (r_part : PropOf K a_Reader "part" pP gP)
    (xNoPart : XCls l.prog K mg "NoPart" a_NoPart "path")
    (l_whole : K.lookup f_whole = some ⟨oc_whole, od_whole, .func (PySem.W.fnOf "is_whole" "is_whole" (defArgs s_whole) (defBody s_whole) (defScope s_whole) .none kV_whole dc_whole pm_whole an_whole cd_whole ct_whole), sl_whole⟩) (o_whole : PySem.W.codeIn K cd_whole "is_whole" = true) (k_whole : PySem.W.keepIn K (.ref f_whole) = true)
    (l_betw : K.lookup f_betw = some ⟨oc_betw, od_betw, .func (PySem.W.fnOf "is_between" "is_between" (defArgs s_betw) (defBody s_betw) (defScope s_betw) .none kV_betw dc_betw pm_betw an_betw cd_betw ct_betw), sl_betw⟩) (o_betw : PySem.W.codeIn K cd_betw "is_between" = true) (k_betw : PySem.W.keepIn K (.ref f_betw) = true)
    (l_oneof : K.lookup f_oneof = some ⟨oc_oneof, od_oneof, .func (PySem.W.fnOf "is_one_of" "is_one_of" (defArgs s_oneof) (defBody s_oneof) (defScope s_oneof) .none kV_oneof dc_oneof pm_oneof an_oneof cd_oneof ct_oneof), sl_oneof⟩) (o_oneof : PySem.W.codeIn K cd_oneof "is_one_of" = true) (k_oneof : PySem.W.keepIn K (.ref f_oneof) = true)
    (l_option : K.lookup f_option = some ⟨oc_option, od_option, .func (PySem.W.fnOf "is_option" "is_option" (defArgs s_option) (defBody s_option) (defScope s_option) .none kV_option dc_option pm_option an_option cd_option ct_option), sl_option⟩) (o_option : PySem.W.codeIn K cd_option "is_option" = true) (k_option : PySem.W.keepIn K (.ref f_option) = true)
    (l_options : K.lookup f_options = some ⟨oc_options, od_options, .func (PySem.W.fnOf "are_options" "are_options" (defArgs s_options) (defBody s_options) (defScope s_options) .none kV_options dc_options pm_options an_options cd_options ct_options), sl_options⟩) (o_options : PySem.W.codeIn K cd_options "are_options" = true) (k_options : PySem.W.keepIn K (.ref f_options) = true)
    (l_most : K.lookup f_most = some ⟨oc_most, od_most, .func (PySem.W.fnOf "is_most" "is_most" (defArgs s_most) (defBody s_most) (defScope s_most) .none kV_most dc_most pm_most an_most cd_most ct_most), sl_most⟩) (o_most : PySem.W.codeIn K cd_most "is_most" = true) (k_most : PySem.W.keepIn K (.ref f_most) = true)
    (l_icell : K.lookup f_icell = some ⟨oc_icell, od_icell, .func (PySem.W.fnOf "is_cell" "is_cell" (defArgs s_icell) (defBody s_icell) (defScope s_icell) .none kV_icell dc_icell pm_icell an_icell cd_icell ct_icell), sl_icell⟩) (o_icell : PySem.W.codeIn K cd_icell "is_cell" = true) (k_icell : PySem.W.keepIn K (.ref f_icell) = true)
    (l_ilimit : K.lookup f_ilimit = some ⟨oc_ilimit, od_ilimit, .func (PySem.W.fnOf "is_limit" "is_limit" (defArgs s_ilimit) (defBody s_ilimit) (defScope s_ilimit) .none kV_ilimit dc_ilimit pm_ilimit an_ilimit cd_ilimit ct_ilimit), sl_ilimit⟩) (o_ilimit : PySem.W.codeIn K cd_ilimit "is_limit" = true) (k_ilimit : PySem.W.keepIn K (.ref f_ilimit) = true)
    (l_form : K.lookup f_form = some ⟨oc_form, od_form, .func (PySem.W.fnOf "has_form" "has_form" (defArgs s_form) (defBody s_form) (defScope s_form) .none kV_form dc_form pm_form an_form cd_form ct_form), sl_form⟩) (o_form : PySem.W.codeIn K cd_form "has_form" = true) (k_form : PySem.W.keepIn K (.ref f_form) = true)
    (l_children : K.lookup f_children = some ⟨oc_children, od_children, .func (PySem.W.fnOf "children" "children" (defArgs s_children) (defBody s_children) (defScope s_children) .none kV_children dc_children pm_children an_children cd_children ct_children), sl_children⟩) (o_children : PySem.W.codeIn K cd_children "children" = true) (k_children : PySem.W.keepIn K (.ref f_children) = true)
    (l_size : K.lookup f_size = some ⟨oc_size, od_size, .func (PySem.W.fnOf "size_of" "size_of" (defArgs s_size) (defBody s_size) (defScope s_size) .none kV_size dc_size pm_size an_size cd_size ct_size), sl_size⟩) (o_size : PySem.W.codeIn K cd_size "size_of" = true) (k_size : PySem.W.keepIn K (.ref f_size) = true)
    (l_asks : K.lookup f_asks = some ⟨oc_asks, od_asks, .func (PySem.W.fnOf "asks" "asks" (defArgs s_asks) (defBody s_asks) (defScope s_asks) .none kV_asks dc_asks pm_asks an_asks cd_asks ct_asks), sl_asks⟩) (o_asks : PySem.W.codeIn K cd_asks "asks" = true) (k_asks : PySem.W.keepIn K (.ref f_asks) = true)
    (l_wrong : K.lookup f_wrong = some ⟨oc_wrong, od_wrong, .func (PySem.W.fnOf "first_wrong" "first_wrong" (defArgs s_wrong) (defBody s_wrong) (defScope s_wrong) .none kV_wrong dc_wrong pm_wrong an_wrong cd_wrong ct_wrong), sl_wrong⟩) (o_wrong : PySem.W.codeIn K cd_wrong "first_wrong" = true) (k_wrong : PySem.W.keepIn K (.ref f_wrong) = true)
    (l_count : K.lookup f_count = some ⟨oc_count, od_count, .func (PySem.W.fnOf "count_of" "count_of" (defArgs s_count) (defBody s_count) (defScope s_count) .none kV_count dc_count pm_count an_count cd_count ct_count), sl_count⟩) (o_count : PySem.W.codeIn K cd_count "count_of" = true) (k_count : PySem.W.keepIn K (.ref f_count) = true)
    (l_unroll : K.lookup f_unroll = some ⟨oc_unroll, od_unroll, .func (PySem.W.fnOf "unrolled" "unrolled" (defArgs s_unroll) (defBody s_unroll) (defScope s_unroll) .none kV_unroll dc_unroll pm_unroll an_unroll cd_unroll ct_unroll), sl_unroll⟩) (o_unroll : PySem.W.codeIn K cd_unroll "unrolled" = true) (k_unroll : PySem.W.keepIn K (.ref f_unroll) = true)
    (l_wpath : K.lookup f_wpath = some ⟨oc_wpath, od_wpath, .func (PySem.W.fnOf "wrong_path" "wrong_path" (defArgs s_wpath) (defBody s_wpath) (defScope s_wpath) .none kV_wpath dc_wpath pm_wpath an_wpath cd_wpath ct_wpath), sl_wpath⟩) (o_wpath : PySem.W.codeIn K cd_wpath "wrong_path" = true) (k_wpath : PySem.W.keepIn K (.ref f_wpath) = true)
    (l_cpart : K.lookup f_cpart = some ⟨oc_cpart, od_cpart, .func (PySem.W.fnOf "check_part" "check_part" (defArgs s_cpart) (defBody s_cpart) (defScope s_cpart) .none kV_cpart dc_cpart pm_cpart an_cpart cd_cpart ct_cpart), sl_cpart⟩) (o_cpart : PySem.W.codeIn K cd_cpart "check_part" = true) (k_cpart : PySem.W.keepIn K (.ref f_cpart) = true)
    (l_lchildren : K.lookup f_lchildren = some ⟨oc_lchildren, od_lchildren, .func (PySem.W.fnOf "_law_children" "_law_children" (defArgs s_lchildren) (defBody s_lchildren) (defScope s_lchildren) .none kV_lchildren dc_lchildren pm_lchildren an_lchildren cd_lchildren ct_lchildren), sl_lchildren⟩) (o_lchildren : PySem.W.codeIn K cd_lchildren "_law_children" = true) (k_lchildren : PySem.W.keepIn K (.ref f_lchildren) = true)
    (l_lsize : K.lookup f_lsize = some ⟨oc_lsize, od_lsize, .func (PySem.W.fnOf "_law_size" "_law_size" (defArgs s_lsize) (defBody s_lsize) (defScope s_lsize) .none kV_lsize dc_lsize pm_lsize an_lsize cd_lsize ct_lsize), sl_lsize⟩) (o_lsize : PySem.W.codeIn K cd_lsize "_law_size" = true) (k_lsize : PySem.W.keepIn K (.ref f_lsize) = true)
    (l_pool : K.lookup f_pool = some ⟨oc_pool, od_pool, .func (PySem.W.fnOf "_law_pool" "_law_pool" (defArgs s_pool) (defBody s_pool) (defScope s_pool) .none kV_pool dc_pool pm_pool an_pool cd_pool ct_pool), sl_pool⟩) (o_pool : PySem.W.codeIn K cd_pool "_law_pool" = true) (k_pool : PySem.W.keepIn K (.ref f_pool) = true)
    (l_draw : K.lookup f_draw = some ⟨oc_draw, od_draw, .func (PySem.W.fnOf "_law_draw" "_law_draw" (defArgs s_draw) (defBody s_draw) (defScope s_draw) .none kV_draw dc_draw pm_draw an_draw cd_draw ct_draw), sl_draw⟩) (o_draw : PySem.W.codeIn K cd_draw "_law_draw" = true) (k_draw : PySem.W.keepIn K (.ref f_draw) = true)
    (l_lleaf : K.lookup f_lleaf = some ⟨oc_lleaf, od_lleaf, .func (PySem.W.fnOf "_law_leaf" "_law_leaf" (defArgs s_lleaf) (defBody s_lleaf) (defScope s_lleaf) .none kV_lleaf dc_lleaf pm_lleaf an_lleaf cd_lleaf ct_lleaf), sl_lleaf⟩) (o_lleaf : PySem.W.codeIn K cd_lleaf "_law_leaf" = true) (k_lleaf : PySem.W.keepIn K (.ref f_lleaf) = true)
    (l_lopts : K.lookup f_lopts = some ⟨oc_lopts, od_lopts, .func (PySem.W.fnOf "_law_options" "_law_options" (defArgs s_lopts) (defBody s_lopts) (defScope s_lopts) .none kV_lopts dc_lopts pm_lopts an_lopts cd_lopts ct_lopts), sl_lopts⟩) (o_lopts : PySem.W.codeIn K cd_lopts "_law_options" = true) (k_lopts : PySem.W.keepIn K (.ref f_lopts) = true)
    (l_lctd : K.lookup f_lctd = some ⟨oc_lctd, od_lctd, .func (PySem.W.fnOf "_law_counted" "_law_counted" (defArgs s_lctd) (defBody s_lctd) (defScope s_lctd) .none kV_lctd dc_lctd pm_lctd an_lctd cd_lctd ct_lctd), sl_lctd⟩) (o_lctd : PySem.W.codeIn K cd_lctd "_law_counted" = true) (k_lctd : PySem.W.keepIn K (.ref f_lctd) = true)
    (l_lwth : K.lookup f_lwth = some ⟨oc_lwth, od_lwth, .func (PySem.W.fnOf "_law_within" "_law_within" (defArgs s_lwth) (defBody s_lwth) (defScope s_lwth) .none kV_lwth dc_lwth pm_lwth an_lwth cd_lwth ct_lwth), sl_lwth⟩) (o_lwth : PySem.W.codeIn K cd_lwth "_law_within" = true) (k_lwth : PySem.W.keepIn K (.ref f_lwth) = true)
    (l_lpart : K.lookup f_lpart = some ⟨oc_lpart, od_lpart, .func (PySem.W.fnOf "_law_part" "_law_part" (defArgs s_lpart) (defBody s_lpart) (defScope s_lpart) .none kV_lpart dc_lpart pm_lpart an_lpart cd_lpart ct_lpart), sl_lpart⟩) (o_lpart : PySem.W.codeIn K cd_lpart "_law_part" = true) (k_lpart : PySem.W.keepIn K (.ref f_lpart) = true)
    (l_sub : K.lookup f_sub = some ⟨oc_sub, od_sub, .func (PySem.W.fnOf "subparts" "subparts" (defArgs s_sub) (defBody s_sub) (defScope s_sub) .none kV_sub dc_sub pm_sub an_sub cd_sub ct_sub), sl_sub⟩) (o_sub : PySem.W.codeIn K cd_sub "subparts" = true) (k_sub : PySem.W.keepIn K (.ref f_sub) = true)
    (l_childM : K.lookup f_childM = some ⟨oc_childM, od_childM, .func (PySem.W.fnOf "children" "children" (defArgs s_childM) (defBody s_childM) (defScope s_childM) .none kV_childM dc_childM pm_childM an_childM cd_childM ct_childM), sl_childM⟩) (o_childM : PySem.W.codeIn K cd_childM "children" = true) (k_childM : PySem.W.keepIn K (.ref f_childM) = true)
    (l_partat : K.lookup f_partat = some ⟨oc_partat, od_partat, .func (PySem.W.fnOf "part_at" "part_at" (defArgs s_partat) (defBody s_partat) (defScope s_partat) .none kV_partat dc_partat pm_partat an_partat cd_partat ct_partat), sl_partat⟩) (o_partat : PySem.W.codeIn K cd_partat "part_at" = true) (k_partat : PySem.W.keepIn K (.ref f_partat) = true)
    (l_wkids : K.lookup f_wkids = some ⟨oc_wkids, od_wkids, .func (PySem.W.fnOf "with_children" "with_children" (defArgs s_wkids) (defBody s_wkids) (defScope s_wkids) .none kV_wkids dc_wkids pm_wkids an_wkids cd_wkids ct_wkids), sl_wkids⟩) (o_wkids : PySem.W.codeIn K cd_wkids "with_children" = true) (k_wkids : PySem.W.keepIn K (.ref f_wkids) = true)
    (l_repl : K.lookup f_repl = some ⟨oc_repl, od_repl, .func (PySem.W.fnOf "replaced" "replaced" (defArgs s_repl) (defBody s_repl) (defScope s_repl) .none kV_repl dc_repl pm_repl an_repl cd_repl ct_repl), sl_repl⟩) (o_repl : PySem.W.codeIn K cd_repl "replaced" = true) (k_repl : PySem.W.keepIn K (.ref f_repl) = true)
    (l_haspath : K.lookup f_haspath = some ⟨oc_haspath, od_haspath, .func (PySem.W.fnOf "has_path" "has_path" (defArgs s_haspath) (defBody s_haspath) (defScope s_haspath) .none kV_haspath dc_haspath pm_haspath an_haspath cd_haspath ct_haspath), sl_haspath⟩) (o_haspath : PySem.W.codeIn K cd_haspath "has_path" = true) (k_haspath : PySem.W.keepIn K (.ref f_haspath) = true)
    (l_howix : K.lookup f_howix = some ⟨oc_howix, od_howix, .func (PySem.W.fnOf "how_index" "how_index" (defArgs s_howix) (defBody s_howix) (defScope s_howix) .none kV_howix dc_howix pm_howix an_howix cd_howix ct_howix), sl_howix⟩) (o_howix : PySem.W.codeIn K cd_howix "how_index" = true) (k_howix : PySem.W.keepIn K (.ref f_howix) = true)
    (l_wfield : K.lookup f_wfield = some ⟨oc_wfield, od_wfield, .func (PySem.W.fnOf "with_field" "with_field" (defArgs s_wfield) (defBody s_wfield) (defScope s_wfield) .none kV_wfield dc_wfield pm_wfield an_wfield cd_wfield ct_wfield), sl_wfield⟩) (o_wfield : PySem.W.codeIn K cd_wfield "with_field" = true) (k_wfield : PySem.W.keepIn K (.ref f_wfield) = true)
    (l_ownw : K.lookup f_ownw = some ⟨oc_ownw, od_ownw, .func (PySem.W.fnOf "own_words" "own_words" (defArgs s_ownw) (defBody s_ownw) (defScope s_ownw) .none kV_ownw dc_ownw pm_ownw an_ownw cd_ownw ct_ownw), sl_ownw⟩) (o_ownw : PySem.W.codeIn K cd_ownw "own_words" = true) (k_ownw : PySem.W.keepIn K (.ref f_ownw) = true)
    (l_sites : K.lookup f_sites = some ⟨oc_sites, od_sites, .func (PySem.W.fnOf "sites" "sites" (defArgs s_sites) (defBody s_sites) (defScope s_sites) .none kV_sites dc_sites pm_sites an_sites cd_sites ct_sites), sl_sites⟩) (o_sites : PySem.W.codeIn K cd_sites "sites" = true) (k_sites : PySem.W.keepIn K (.ref f_sites) = true)
    (l_woword : K.lookup f_woword = some ⟨oc_woword, od_woword, .func (PySem.W.fnOf "without_word" "without_word" (defArgs s_woword) (defBody s_woword) (defScope s_woword) .none kV_woword dc_woword pm_woword an_woword cd_woword ct_woword), sl_woword⟩) (o_woword : PySem.W.codeIn K cd_woword "without_word" = true) (k_woword : PySem.W.keepIn K (.ref f_woword) = true)
    (l_cksites : K.lookup f_cksites = some ⟨oc_cksites, od_cksites, .func (PySem.W.fnOf "check_sites" "check_sites" (defArgs s_cksites) (defBody s_cksites) (defScope s_cksites) .none kV_cksites dc_cksites pm_cksites an_cksites cd_cksites ct_cksites), sl_cksites⟩) (o_cksites : PySem.W.codeIn K cd_cksites "check_sites" = true) (k_cksites : PySem.W.keepIn K (.ref f_cksites) = true)
    (l_without : K.lookup f_without = some ⟨oc_without, od_without, .func (PySem.W.fnOf "without" "without" (defArgs s_without) (defBody s_without) (defScope s_without) .none kV_without dc_without pm_without an_without cd_without ct_without), sl_without⟩) (o_without : PySem.W.codeIn K cd_without "without" = true) (k_without : PySem.W.keepIn K (.ref f_without) = true)
    (l_kept : K.lookup f_kept = some ⟨oc_kept, od_kept, .func (PySem.W.fnOf "kept" "kept" (defArgs s_kept) (defBody s_kept) (defScope s_kept) .none kV_kept dc_kept pm_kept an_kept cd_kept ct_kept), sl_kept⟩) (o_kept : PySem.W.codeIn K cd_kept "kept" = true) (k_kept : PySem.W.keepIn K (.ref f_kept) = true)
    (l_fmt : K.lookup f_fmt = some ⟨oc_fmt, od_fmt, .func (PySem.W.fnOf "format_of" "format_of" (defArgs s_fmt) (defBody s_fmt) (defScope s_fmt) .none kV_fmt dc_fmt pm_fmt an_fmt cd_fmt ct_fmt), sl_fmt⟩) (o_fmt : PySem.W.codeIn K cd_fmt "format_of" = true) (k_fmt : PySem.W.keepIn K (.ref f_fmt) = true)
    (l_same : K.lookup f_same = some ⟨oc_same, od_same, .func (PySem.W.fnOf "is_same_format" "is_same_format" (defArgs s_same) (defBody s_same) (defScope s_same) .none kV_same dc_same pm_same an_same cd_same ct_same), sl_same⟩) (o_same : PySem.W.codeIn K cd_same "is_same_format" = true) (k_same : PySem.W.keepIn K (.ref f_same) = true)
    (l_lchecks : K.lookup f_lchecks = some ⟨oc_lchecks, od_lchecks, .func (PySem.W.fnOf "_law_checks" "_law_checks" (defArgs s_lchecks) (defBody s_lchecks) (defScope s_lchecks) .none kV_lchecks dc_lchecks pm_lchecks an_lchecks cd_lchecks ct_lchecks), sl_lchecks⟩) (o_lchecks : PySem.W.codeIn K cd_lchecks "_law_checks" = true) (k_lchecks : PySem.W.keepIn K (.ref f_lchecks) = true)
    (l_lfield : K.lookup f_lfield = some ⟨oc_lfield, od_lfield, .func (PySem.W.fnOf "_law_field" "_law_field" (defArgs s_lfield) (defBody s_lfield) (defScope s_lfield) .none kV_lfield dc_lfield pm_lfield an_lfield cd_lfield ct_lfield), sl_lfield⟩) (o_lfield : PySem.W.codeIn K cd_lfield "_law_field" = true) (k_lfield : PySem.W.keepIn K (.ref f_lfield) = true)
    (l_lless : K.lookup f_lless = some ⟨oc_lless, od_lless, .func (PySem.W.fnOf "_law_less" "_law_less" (defArgs s_lless) (defBody s_lless) (defScope s_lless) .none kV_lless dc_lless pm_lless an_lless cd_lless ct_lless), sl_lless⟩) (o_lless : PySem.W.codeIn K cd_lless "_law_less" = true) (k_lless : PySem.W.keepIn K (.ref f_lless) = true)
    (l_lwithout : K.lookup f_lwithout = some ⟨oc_lwithout, od_lwithout, .func (PySem.W.fnOf "_law_without" "_law_without" (defArgs s_lwithout) (defBody s_lwithout) (defScope s_lwithout) .none kV_lwithout dc_lwithout pm_lwithout an_lwithout cd_lwithout ct_lwithout), sl_lwithout⟩) (o_lwithout : PySem.W.codeIn K cd_lwithout "_law_without" = true) (k_lwithout : PySem.W.keepIn K (.ref f_lwithout) = true)
    (l_lkept : K.lookup f_lkept = some ⟨oc_lkept, od_lkept, .func (PySem.W.fnOf "_law_kept" "_law_kept" (defArgs s_lkept) (defBody s_lkept) (defScope s_lkept) .none kV_lkept dc_lkept pm_lkept an_lkept cd_lkept ct_lkept), sl_lkept⟩) (o_lkept : PySem.W.codeIn K cd_lkept "_law_kept" = true) (k_lkept : PySem.W.keepIn K (.ref f_lkept) = true)
    (l_lwrong : K.lookup f_lwrong = some ⟨oc_lwrong, od_lwrong, .func (PySem.W.fnOf "_law_wrong" "_law_wrong" (defArgs s_lwrong) (defBody s_lwrong) (defScope s_lwrong) .none kV_lwrong dc_lwrong pm_lwrong an_lwrong cd_lwrong ct_lwrong), sl_lwrong⟩) (o_lwrong : PySem.W.codeIn K cd_lwrong "_law_wrong" = true) (k_lwrong : PySem.W.keepIn K (.ref f_lwrong) = true)
    (l_ltakes : K.lookup f_ltakes = some ⟨oc_ltakes, od_ltakes, .func (PySem.W.fnOf "_law_takes" "_law_takes" (defArgs s_ltakes) (defBody s_ltakes) (defScope s_ltakes) .none kV_ltakes dc_ltakes pm_ltakes an_ltakes cd_ltakes ct_ltakes), sl_ltakes⟩) (o_ltakes : PySem.W.codeIn K cd_ltakes "_law_takes" = true) (k_ltakes : PySem.W.keepIn K (.ref f_ltakes) = true)
    (l_law : K.lookup f_law = some ⟨oc_law, od_law, .func (PySem.W.fnOf "law" "law" (defArgs s_law) (defBody s_law) (defScope s_law) .none kV_law dc_law pm_law an_law cd_law ct_law), sl_law⟩) (o_law : PySem.W.codeIn K cd_law "law" = true) (k_law : PySem.W.keepIn K (.ref f_law) = true)
    (l_rinit : K.lookup f_rinit = some ⟨oc_rinit, od_rinit, .func (PySem.W.fnOf "__init__" "Reader.__init__" (defArgs s_rinit) (defBody s_rinit) (defScope s_rinit) .none kV_rinit dc_rinit pm_rinit an_rinit cd_rinit ct_rinit), sl_rinit⟩) (o_rinit : PySem.W.codeIn K cd_rinit "Reader.__init__" = true) (k_rinit : PySem.W.keepIn K (.ref f_rinit) = true)
    (l_rpart : K.lookup f_rpart = some ⟨oc_rpart, od_rpart, .func (PySem.W.fnOf "part" "Reader.part" (defArgs s_rpart) (defBody s_rpart) (defScope s_rpart) .none kV_rpart dc_rpart pm_rpart an_rpart cd_rpart ct_rpart), sl_rpart⟩) (o_rpart : PySem.W.codeIn K cd_rpart "Reader.part" = true) (k_rpart : PySem.W.keepIn K (.ref f_rpart) = true)
    (l_req : K.lookup f_req = some ⟨oc_req, od_req, .func (PySem.W.fnOf "__eq__" "Reader.__eq__" (defArgs s_req) (defBody s_req) (defScope s_req) .none kV_req dc_req pm_req an_req cd_req ct_req), sl_req⟩) (o_req : PySem.W.codeIn K cd_req "Reader.__eq__" = true) (k_req : PySem.W.keepIn K (.ref f_req) = true)
    (gH : PySem.W.nsIn K mainGlobals "HOWS" = some (some (.ref aH)))
    (kH : K.lookup aH = some ⟨ckH, dkH, .seq ikH mkH, skH⟩)
    (kH1 : ckH = .type "tuple")
    (kH2 : ikH.size ≤ sizeLine)
    (kH3 : Vals (hows.map V.str) ikH.toList)
    (gL : PySem.W.nsIn K mainGlobals "LIMITS" = some (some (.ref aL)))
    (kL : K.lookup aL = some ⟨ckL, dkL, .seq ikL mkL, skL⟩)
    (kL1 : ckL = .type "tuple")
    (kL2 : ikL.size ≤ sizeLine)
    (kL3 : Vals (limits.map V.str) ikL.toList)
    (gRe : PySem.W.nsIn K mainGlobals "RESTS" = some (some (.ref aR)))
    (kRe : K.lookup aR = some ⟨ckRe, dkRe, .seq ikRe mkRe, skRe⟩)
    (kRe1 : ckRe = .type "tuple")
    (kRe2 : ikRe.size ≤ sizeLine)
    (kRe3 : Vals (rests.map V.str) ikRe.toList)
    (gM : PySem.W.nsIn K mainGlobals "LENGTHS" = some (some (.ref aM)))
    (kM : K.lookup aM = some ⟨ckM, dkM, .dict ekM mkM, skM⟩)
    (kM1 : ckM = .type "dict")
    (kM2 : dkM = none)
    (kM3 : skM = #[])
    (kM4 : entOk w.params ekM.toList W.lens)
    (kM5 : (aM == sysModules) = false)
    (gHi : PySem.W.nsIn K mainGlobals "HIGHEST" = some (some (.int 1000000 t1)))
    (gMp : PySem.W.nsIn K mainGlobals "MOST_PARTS" = some (some (.int 60 t2)))
    (gMu : PySem.W.nsIn K mainGlobals "MOST_UNROLLED" = some (some (.int 1000 t3)))
    (gMd : PySem.W.nsIn K mainGlobals "MOST_DEPTH" = some (some (.int 8 t4)))
    (gE : PySem.W.nsIn K mainGlobals "EMPTY" = some (some (.ref aE)))
    (kE : K.lookup aE = some ⟨ckE, dkE, .seq ikE mkE, skE⟩)
    (kE1 : ckE = .type "tuple")
    (kE2 : ikE.size ≤ sizeLine)
    (kE3 : Vals [V.str "row", V.ref aE2] ikE.toList)
    (kF : K.lookup aE2 = some ⟨ckF, dkF, .seq ikF mkF, skF⟩)
    (kF1 : ckF = .type "tuple")
    (kF2 : ikF.size ≤ sizeLine)
    (kF3 : Vals [] ikF.toList)
    (z_len : PySem.W.nsIn K mainGlobals "len" = some none)
    (z_abs : PySem.W.nsIn K mainGlobals "abs" = some none)
    (z_int : PySem.W.nsIn K mainGlobals "int" = some none)
    (z_str : PySem.W.nsIn K mainGlobals "str" = some none)
    (z_range : PySem.W.nsIn K mainGlobals "range" = some none)
    (z_list : PySem.W.nsIn K mainGlobals "list" = some none)
    (z_tuple : PySem.W.nsIn K mainGlobals "tuple" = some none)
    (z_dict : PySem.W.nsIn K mainGlobals "dict" = some none)
    (z_sum : PySem.W.nsIn K mainGlobals "sum" = some none)
    (z_isinstance : PySem.W.nsIn K mainGlobals "isinstance" = some none)
    (z_enumerate : PySem.W.nsIn K mainGlobals "enumerate" = some none)
    (z_zip : PySem.W.nsIn K mainGlobals "zip" = some none)
    (z_max : PySem.W.nsIn K mainGlobals "max" = some none)
    (z_min : PySem.W.nsIn K mainGlobals "min" = some none)
    (z_bool : PySem.W.nsIn K mainGlobals "bool" = some none)
    (z_any : PySem.W.nsIn K mainGlobals "any" = some none)
    (z_all : PySem.W.nsIn K mainGlobals "all" = some none)
    : ∃ fd : FuncData, (∀ (s : Shared) (v : Value), BindsTo s fd ⟨[v], []⟩ [("script", v)]) ∧ ∀ base : Heap, K.In base → base.Ns mainGlobals mg → FnOk l.prog w K mg base (L2N.CX l.prog w) 26 fa fd ["script"] (A.spTop K) := by
  have e := hfa.symm.trans (PySem.W.mg_of X G a_law)
  cases e
  have T : Bn mg := ⟨PySem.W.mg_none_of X G z_len, PySem.W.mg_none_of X G z_abs, PySem.W.mg_none_of X G z_int, PySem.W.mg_none_of X G z_str, PySem.W.mg_none_of X G z_range, PySem.W.mg_none_of X G z_list, PySem.W.mg_none_of X G z_tuple, PySem.W.mg_none_of X G z_dict, PySem.W.mg_none_of X G z_sum, PySem.W.mg_none_of X G z_isinstance, PySem.W.mg_none_of X G z_enumerate, PySem.W.mg_none_of X G z_zip, PySem.W.mg_none_of X G z_max, PySem.W.mg_none_of X G z_min, PySem.W.mg_none_of X G z_bool, PySem.W.mg_none_of X G z_any, PySem.W.mg_none_of X G z_all⟩
  have F_whole := fun_mk (st := s_whole) l_whole o_whole k_whole
  have D_whole : Dfn K mg "is_whole" s_whole ["thing"] f_whole _ := ⟨F_whole.g, PySem.W.mg_of X G a_whole, F_whole.binds (ps := ["thing"]) fun _ _ _ _ _ _ us hl => match us, hl with | [_], _ => rfl⟩
  have F_betw := fun_mk (st := s_betw) l_betw o_betw k_betw
  have D_betw : Dfn K mg "is_between" s_betw ["thing", "low", "high"] f_betw _ := ⟨F_betw.g, PySem.W.mg_of X G a_betw, F_betw.binds (ps := ["thing", "low", "high"]) fun _ _ _ _ _ _ us hl => match us, hl with | [_, _, _], _ => rfl⟩
  have F_oneof := fun_mk (st := s_oneof) l_oneof o_oneof k_oneof
  have D_oneof : Dfn K mg "is_one_of" s_oneof ["thing", "words"] f_oneof _ := ⟨F_oneof.g, PySem.W.mg_of X G a_oneof, F_oneof.binds (ps := ["thing", "words"]) fun _ _ _ _ _ _ us hl => match us, hl with | [_, _], _ => rfl⟩
  have F_option := fun_mk (st := s_option) l_option o_option k_option
  have D_option : Dfn K mg "is_option" s_option ["thing", "last"] f_option _ := ⟨F_option.g, PySem.W.mg_of X G a_option, F_option.binds (ps := ["thing", "last"]) fun _ _ _ _ _ _ us hl => match us, hl with | [_, _], _ => rfl⟩
  have F_options := fun_mk (st := s_options) l_options o_options k_options
  have D_options : Dfn K mg "are_options" s_options ["thing"] f_options _ := ⟨F_options.g, PySem.W.mg_of X G a_options, F_options.binds (ps := ["thing"]) fun _ _ _ _ _ _ us hl => match us, hl with | [_], _ => rfl⟩
  have F_most := fun_mk (st := s_most) l_most o_most k_most
  have D_most : Dfn K mg "is_most" s_most ["thing", "greatest"] f_most _ := ⟨F_most.g, PySem.W.mg_of X G a_most, F_most.binds (ps := ["thing", "greatest"]) fun _ _ _ _ _ _ us hl => match us, hl with | [_, _], _ => rfl⟩
  have F_icell := fun_mk (st := s_icell) l_icell o_icell k_icell
  have D_icell : Dfn K mg "is_cell" s_icell ["low", "high", "how"] f_icell _ := ⟨F_icell.g, PySem.W.mg_of X G a_icell, F_icell.binds (ps := ["low", "high", "how"]) fun _ _ _ _ _ _ us hl => match us, hl with | [_, _, _], _ => rfl⟩
  have F_ilimit := fun_mk (st := s_ilimit) l_ilimit o_ilimit k_ilimit
  have D_ilimit : Dfn K mg "is_limit" s_ilimit ["how", "most", "limit", "rest"] f_ilimit _ := ⟨F_ilimit.g, PySem.W.mg_of X G a_ilimit, F_ilimit.binds (ps := ["how", "most", "limit", "rest"]) fun _ _ _ _ _ _ us hl => match us, hl with | [_, _, _, _], _ => rfl⟩
  have F_form := fun_mk (st := s_form) l_form o_form k_form
  have D_form : Dfn K mg "has_form" s_form ["thing"] f_form _ := ⟨F_form.g, PySem.W.mg_of X G a_form, F_form.binds (ps := ["thing"]) fun _ _ _ _ _ _ us hl => match us, hl with | [_], _ => rfl⟩
  have F_children := fun_mk (st := s_children) l_children o_children k_children
  have D_children : Dfn K mg "children" s_children ["part"] f_children _ := ⟨F_children.g, PySem.W.mg_of X G a_children, F_children.binds (ps := ["part"]) fun _ _ _ _ _ _ us hl => match us, hl with | [_], _ => rfl⟩
  have F_size := fun_mk (st := s_size) l_size o_size k_size
  have D_size : Dfn K mg "size_of" s_size ["part"] f_size _ := ⟨F_size.g, PySem.W.mg_of X G a_size, F_size.binds (ps := ["part"]) fun _ _ _ _ _ _ us hl => match us, hl with | [_], _ => rfl⟩
  have F_asks := fun_mk (st := s_asks) l_asks o_asks k_asks
  have D_asks : Dfn K mg "asks" s_asks ["part"] f_asks _ := ⟨F_asks.g, PySem.W.mg_of X G a_asks, F_asks.binds (ps := ["part"]) fun _ _ _ _ _ _ us hl => match us, hl with | [_], _ => rfl⟩
  have F_wrong := fun_mk (st := s_wrong) l_wrong o_wrong k_wrong
  have D_wrong : Dfn K mg "first_wrong" s_wrong ["part", "path"] f_wrong _ := ⟨F_wrong.g, PySem.W.mg_of X G a_wrong, F_wrong.binds (ps := ["part", "path"]) fun _ _ _ _ _ _ us hl => match us, hl with | [_, _], _ => rfl⟩
  have F_count := fun_mk (st := s_count) l_count o_count k_count
  have D_count : Dfn K mg "count_of" s_count ["part"] f_count _ := ⟨F_count.g, PySem.W.mg_of X G a_count, F_count.binds (ps := ["part"]) fun _ _ _ _ _ _ us hl => match us, hl with | [_], _ => rfl⟩
  have F_unroll := fun_mk (st := s_unroll) l_unroll o_unroll k_unroll
  have D_unroll : Dfn K mg "unrolled" s_unroll ["part"] f_unroll _ := ⟨F_unroll.g, PySem.W.mg_of X G a_unroll, F_unroll.binds (ps := ["part"]) fun _ _ _ _ _ _ us hl => match us, hl with | [_], _ => rfl⟩
  have F_wpath := fun_mk (st := s_wpath) l_wpath o_wpath k_wpath
  have D_wpath : Dfn K mg "wrong_path" s_wpath ["thing"] f_wpath _ := ⟨F_wpath.g, PySem.W.mg_of X G a_wpath, F_wpath.binds (ps := ["thing"]) fun _ _ _ _ _ _ us hl => match us, hl with | [_], _ => rfl⟩
  have F_cpart := fun_mk (st := s_cpart) l_cpart o_cpart k_cpart
  have D_cpart : Dfn K mg "check_part" s_cpart ["thing"] f_cpart _ := ⟨F_cpart.g, PySem.W.mg_of X G a_cpart, F_cpart.binds (ps := ["thing"]) fun _ _ _ _ _ _ us hl => match us, hl with | [_], _ => rfl⟩
  have F_lchildren := fun_mk (st := s_lchildren) l_lchildren o_lchildren k_lchildren
  have D_lchildren : Dfn K mg "_law_children" s_lchildren ["part"] f_lchildren _ := ⟨F_lchildren.g, PySem.W.mg_of X G a_lchildren, F_lchildren.binds (ps := ["part"]) fun _ _ _ _ _ _ us hl => match us, hl with | [_], _ => rfl⟩
  have F_lsize := fun_mk (st := s_lsize) l_lsize o_lsize k_lsize
  have D_lsize : Dfn K mg "_law_size" s_lsize ["part"] f_lsize _ := ⟨F_lsize.g, PySem.W.mg_of X G a_lsize, F_lsize.binds (ps := ["part"]) fun _ _ _ _ _ _ us hl => match us, hl with | [_], _ => rfl⟩
  have F_pool := fun_mk (st := s_pool) l_pool o_pool k_pool
  have D_pool : Dfn K mg "_law_pool" s_pool ["script", "k"] f_pool _ := ⟨F_pool.g, PySem.W.mg_of X G a_pool, F_pool.binds (ps := ["script", "k"]) fun _ _ _ _ _ _ us hl => match us, hl with | [_, _], _ => rfl⟩
  have F_draw := fun_mk (st := s_draw) l_draw o_draw k_draw
  have D_draw : Dfn K mg "_law_draw" s_draw ["pool", "count"] f_draw _ := ⟨F_draw.g, PySem.W.mg_of X G a_draw, F_draw.binds (ps := ["pool", "count"]) fun _ _ _ _ _ _ us hl => match us, hl with | [_, _], _ => rfl⟩
  have F_lleaf := fun_mk (st := s_lleaf) l_lleaf o_lleaf k_lleaf
  have D_lleaf : Dfn K mg "_law_leaf" s_lleaf ["pool", "how", "told"] f_lleaf _ := ⟨F_lleaf.g, PySem.W.mg_of X G a_lleaf, F_lleaf.binds (ps := ["pool", "how", "told"]) fun _ _ _ _ _ _ us hl => match us, hl with | [_, _, _], _ => rfl⟩
  have F_lopts := fun_mk (st := s_lopts) l_lopts o_lopts k_lopts
  have D_lopts : Dfn K mg "_law_options" s_lopts ["pool", "room", "depth", "limits", "told"] f_lopts _ := ⟨F_lopts.g, PySem.W.mg_of X G a_lopts, F_lopts.binds (ps := ["pool", "room", "depth", "limits", "told"]) fun _ _ _ _ _ _ us hl => match us, hl with | [_, _, _, _, _], _ => rfl⟩
  have F_lctd := fun_mk (st := s_lctd) l_lctd o_lctd k_lctd
  have D_lctd : Dfn K mg "_law_counted" s_lctd ["pool", "how", "room", "depth", "limits", "told"] f_lctd _ := ⟨F_lctd.g, PySem.W.mg_of X G a_lctd, F_lctd.binds (ps := ["pool", "how", "room", "depth", "limits", "told"]) fun _ _ _ _ _ _ us hl => match us, hl with | [_, _, _, _, _, _], _ => rfl⟩
  have F_lwth := fun_mk (st := s_lwth) l_lwth o_lwth k_lwth
  have D_lwth : Dfn K mg "_law_within" s_lwth ["pool", "how", "room", "depth", "limits"] f_lwth _ := ⟨F_lwth.g, PySem.W.mg_of X G a_lwth, F_lwth.binds (ps := ["pool", "how", "room", "depth", "limits"]) fun _ _ _ _ _ _ us hl => match us, hl with | [_, _, _, _, _], _ => rfl⟩
  have F_lpart := fun_mk (st := s_lpart) l_lpart o_lpart k_lpart
  have D_lpart : Dfn K mg "_law_part" s_lpart ["pool", "room", "depth", "limits", "told"] f_lpart _ := ⟨F_lpart.g, PySem.W.mg_of X G a_lpart, F_lpart.binds (ps := ["pool", "room", "depth", "limits", "told"]) fun _ _ _ _ _ _ us hl => match us, hl with | [_, _, _, _, _], _ => rfl⟩
  have F_sub := fun_mk (st := s_sub) l_sub o_sub k_sub
  have D_sub : Dfn K mg "subparts" s_sub ["part"] f_sub _ := ⟨F_sub.g, PySem.W.mg_of X G a_sub, F_sub.binds (ps := ["part"]) fun _ _ _ _ _ _ us hl => match us, hl with | [_], _ => rfl⟩
  have F_childM := fun_mk (st := s_childM) l_childM o_childM k_childM
  have D_childM : Dfn K mg "children" s_childM ["part"] f_childM _ := ⟨F_childM.g, PySem.W.mg_of X G a_childM, F_childM.binds (ps := ["part"]) fun _ _ _ _ _ _ us hl => match us, hl with | [_], _ => rfl⟩
  have F_partat := fun_mk (st := s_partat) l_partat o_partat k_partat
  have D_partat : Dfn K mg "part_at" s_partat ["part", "path"] f_partat _ := ⟨F_partat.g, PySem.W.mg_of X G a_partat, F_partat.binds (ps := ["part", "path"]) fun _ _ _ _ _ _ us hl => match us, hl with | [_, _], _ => rfl⟩
  have F_wkids := fun_mk (st := s_wkids) l_wkids o_wkids k_wkids
  have D_wkids : Dfn K mg "with_children" s_wkids ["part", "inner"] f_wkids _ := ⟨F_wkids.g, PySem.W.mg_of X G a_wkids, F_wkids.binds (ps := ["part", "inner"]) fun _ _ _ _ _ _ us hl => match us, hl with | [_, _], _ => rfl⟩
  have F_repl := fun_mk (st := s_repl) l_repl o_repl k_repl
  have D_repl : Dfn K mg "replaced" s_repl ["part", "path", "other"] f_repl _ := ⟨F_repl.g, PySem.W.mg_of X G a_repl, F_repl.binds (ps := ["part", "path", "other"]) fun _ _ _ _ _ _ us hl => match us, hl with | [_, _, _], _ => rfl⟩
  have F_haspath := fun_mk (st := s_haspath) l_haspath o_haspath k_haspath
  have D_haspath : Dfn K mg "has_path" s_haspath ["part", "path"] f_haspath _ := ⟨F_haspath.g, PySem.W.mg_of X G a_haspath, F_haspath.binds (ps := ["part", "path"]) fun _ _ _ _ _ _ us hl => match us, hl with | [_, _], _ => rfl⟩
  have F_howix := fun_mk (st := s_howix) l_howix o_howix k_howix
  have D_howix : Dfn K mg "how_index" s_howix ["part"] f_howix _ := ⟨F_howix.g, PySem.W.mg_of X G a_howix, F_howix.binds (ps := ["part"]) fun _ _ _ _ _ _ us hl => match us, hl with | [_], _ => rfl⟩
  have F_wfield := fun_mk (st := s_wfield) l_wfield o_wfield k_wfield
  have D_wfield : Dfn K mg "with_field" s_wfield ["part", "index", "value"] f_wfield _ := ⟨F_wfield.g, PySem.W.mg_of X G a_wfield, F_wfield.binds (ps := ["part", "index", "value"]) fun _ _ _ _ _ _ us hl => match us, hl with | [_, _, _], _ => rfl⟩
  have F_ownw := fun_mk (st := s_ownw) l_ownw o_ownw k_ownw
  have D_ownw : Dfn K mg "own_words" s_ownw ["part"] f_ownw _ := ⟨F_ownw.g, PySem.W.mg_of X G a_ownw, F_ownw.binds (ps := ["part"]) fun _ _ _ _ _ _ us hl => match us, hl with | [_], _ => rfl⟩
  have F_sites := fun_mk (st := s_sites) l_sites o_sites k_sites
  have D_sites : Dfn K mg "sites" s_sites ["reader"] f_sites _ := ⟨F_sites.g, PySem.W.mg_of X G a_sites, F_sites.binds (ps := ["reader"]) fun _ _ _ _ _ _ us hl => match us, hl with | [_], _ => rfl⟩
  have F_woword := fun_mk (st := s_woword) l_woword o_woword k_woword
  have D_woword : Dfn K mg "without_word" s_woword ["part", "word"] f_woword _ := ⟨F_woword.g, PySem.W.mg_of X G a_woword, F_woword.binds (ps := ["part", "word"]) fun _ _ _ _ _ _ us hl => match us, hl with | [_, _], _ => rfl⟩
  have F_cksites := fun_mk (st := s_cksites) l_cksites o_cksites k_cksites
  have D_cksites : Dfn K mg "check_sites" s_cksites ["reader", "some"] f_cksites _ := ⟨F_cksites.g, PySem.W.mg_of X G a_cksites, F_cksites.binds (ps := ["reader", "some"]) fun _ _ _ _ _ _ us hl => match us, hl with | [_, _], _ => rfl⟩
  have F_without := fun_mk (st := s_without) l_without o_without k_without
  have hm_without := PySem.W.mg_of X G a_without
  have F_kept := fun_mk (st := s_kept) l_kept o_kept k_kept
  have hm_kept := PySem.W.mg_of X G a_kept
  have F_fmt := fun_mk (st := s_fmt) l_fmt o_fmt k_fmt
  have D_fmt : Dfn K mg "format_of" s_fmt ["reader"] f_fmt _ := ⟨F_fmt.g, PySem.W.mg_of X G a_fmt, F_fmt.binds (ps := ["reader"]) fun _ _ _ _ _ _ us hl => match us, hl with | [_], _ => rfl⟩
  have F_same := fun_mk (st := s_same) l_same o_same k_same
  have D_same : Dfn K mg "is_same_format" s_same ["reader", "other"] f_same _ := ⟨F_same.g, PySem.W.mg_of X G a_same, F_same.binds (ps := ["reader", "other"]) fun _ _ _ _ _ _ us hl => match us, hl with | [_, _], _ => rfl⟩
  have F_lchecks := fun_mk (st := s_lchecks) l_lchecks o_lchecks k_lchecks
  have D_lchecks : Dfn K mg "_law_checks" s_lchecks ["part", "path"] f_lchecks _ := ⟨F_lchecks.g, PySem.W.mg_of X G a_lchecks, F_lchecks.binds (ps := ["part", "path"]) fun _ _ _ _ _ _ us hl => match us, hl with | [_, _], _ => rfl⟩
  have F_lfield := fun_mk (st := s_lfield) l_lfield o_lfield k_lfield
  have D_lfield : Dfn K mg "_law_field" s_lfield ["part", "place", "value"] f_lfield _ := ⟨F_lfield.g, PySem.W.mg_of X G a_lfield, F_lfield.binds (ps := ["part", "place", "value"]) fun _ _ _ _ _ _ us hl => match us, hl with | [_, _, _], _ => rfl⟩
  have F_lless := fun_mk (st := s_lless) l_lless o_lless k_lless
  have D_lless : Dfn K mg "_law_less" s_lless ["part", "path", "out"] f_lless _ := ⟨F_lless.g, PySem.W.mg_of X G a_lless, F_lless.binds (ps := ["part", "path", "out"]) fun _ _ _ _ _ _ us hl => match us, hl with | [_, _, _], _ => rfl⟩
  have F_lwithout := fun_mk (st := s_lwithout) l_lwithout o_lwithout k_lwithout
  have D_lwithout : Dfn K mg "_law_without" s_lwithout ["reader", "few"] f_lwithout _ := ⟨F_lwithout.g, PySem.W.mg_of X G a_lwithout, F_lwithout.binds (ps := ["reader", "few"]) fun _ _ _ _ _ _ us hl => match us, hl with | [_, _], _ => rfl⟩
  have F_lkept := fun_mk (st := s_lkept) l_lkept o_lkept k_lkept
  have D_lkept : Dfn K mg "_law_kept" s_lkept ["reader", "few"] f_lkept _ := ⟨F_lkept.g, PySem.W.mg_of X G a_lkept, F_lkept.binds (ps := ["reader", "few"]) fun _ _ _ _ _ _ us hl => match us, hl with | [_, _], _ => rfl⟩
  have F_lwrong := fun_mk (st := s_lwrong) l_lwrong o_lwrong k_lwrong
  have D_lwrong : Dfn K mg "_law_wrong" s_lwrong ["reader", "good", "bad", "other"] f_lwrong _ := ⟨F_lwrong.g, PySem.W.mg_of X G a_lwrong, F_lwrong.binds (ps := ["reader", "good", "bad", "other"]) fun _ _ _ _ _ _ us hl => match us, hl with | [_, _, _, _], _ => rfl⟩
  have F_ltakes := fun_mk (st := s_ltakes) l_ltakes o_ltakes k_ltakes
  have D_ltakes : Dfn K mg "_law_takes" s_ltakes ["pool", "part"] f_ltakes _ := ⟨F_ltakes.g, PySem.W.mg_of X G a_ltakes, F_ltakes.binds (ps := ["pool", "part"]) fun _ _ _ _ _ _ us hl => match us, hl with | [_, _], _ => rfl⟩
  have F_law := fun_mk (st := s_law) l_law o_law k_law
  have D_law : Dfn K mg "law" s_law ["script"] fa _ := ⟨F_law.g, PySem.W.mg_of X G a_law, F_law.binds (ps := ["script"]) fun _ _ _ _ _ _ us hl => match us, hl with | [_], _ => rfl⟩
  have F_rinit := fun_mk (st := s_rinit) l_rinit o_rinit k_rinit
  have D_rinit : MDf K "__init__" "Reader.__init__" s_rinit ["self", "part"] f_rinit _ := ⟨F_rinit.g, F_rinit.binds (ps := ["self", "part"]) fun _ _ _ _ _ _ us hl => match us, hl with | [_, _], _ => rfl⟩
  have F_rpart := fun_mk (st := s_rpart) l_rpart o_rpart k_rpart
  have D_rpart : MDf K "part" "Reader.part" s_rpart ["self"] f_rpart _ := ⟨F_rpart.g, F_rpart.binds (ps := ["self"]) fun _ _ _ _ _ _ us hl => match us, hl with | [_], _ => rfl⟩
  have F_req := fun_mk (st := s_req) l_req o_req k_req
  have D_req : MDf K "__eq__" "Reader.__eq__" s_req ["self", "other"] f_req _ := ⟨F_req.g, F_req.binds (ps := ["self", "other"]) fun _ _ _ _ _ _ us hl => match us, hl with | [_, _], _ => rfl⟩
  let cA : Str → Addr := fun x => if x = "Reader" then a_Reader else if x = "NoPart" then a_NoPart else a_NoWord
  have e_Reader : cA "Reader" = a_Reader := by simp [cA, A.ofString_inj]
  have e_NoPart : cA "NoPart" = a_NoPart := by simp [cA, A.ofString_inj]
  have e_NoWord : cA "NoWord" = a_NoWord := by simp [cA, A.ofString_inj]
  have G_Reader : mg "Reader" = some (.ref (cA "Reader")) := by rw [e_Reader]; exact PySem.W.mg_of X G g_Reader
  have c_Reader : Cls K (cA "Reader") := by rw [e_Reader]; exact c_Reader
  have n_Reader_own_part : NoAttr K (cA "Reader") "own_part" := by rw [e_Reader]; exact n_Reader_own_part
  have n_Reader_own_level : NoAttr K (cA "Reader") "own_level" := by rw [e_Reader]; exact n_Reader_own_level
  have m_rinit : Mk K (cA "Reader") f_rinit := by rw [e_Reader]; exact m_rinit
  have m_rpart : PropOf K (cA "Reader") "part" p_rpart f_rpart := by rw [e_Reader]; exact m_rpart
  have m_req : PySem.W.findIn K (.ref (cA "Reader")) "__eq__" = some (some (.ref f_req)) := by rw [e_Reader]; exact m_req
  have xNoWord : XCls l.prog K mg "NoWord" (cA "NoWord") "value" := by rw [e_NoWord]; exact xNoWord
  have i_Reader : C8.InsC K (cA "Reader") := by rw [e_Reader]; exact i_Reader
  have h_NoWord : PySem.W.exmOne K (.ref (cA "NoWord")) (.ref (cA "NoWord")) = some true := by rw [e_NoWord]; exact h_NoWord
  have r_part : PropOf K (cA "Reader") "part" pP gP := by rw [e_Reader]; exact r_part
  have xNoPart : XCls l.prog K mg "NoPart" (cA "NoPart") "path" := by rw [e_NoPart]; exact xNoPart
  have kMM : KDc K w aM W.lens := by
    subst kM1 kM2 kM3
    exact ⟨_, _, kM, kM4, kM5⟩
  have M : Cst K w mg aH aL aR aM := ⟨PySem.W.mg_of X G gH, ⟨_, _, _, kH, kH1, rfl, kH2, kH3⟩, PySem.W.mg_of X G gL, ⟨_, _, _, kL, kL1, rfl, kL2, kL3⟩, PySem.W.mg_of X G gRe, ⟨_, _, _, kRe, kRe1, rfl, kRe2, kRe3⟩, PySem.W.mg_of X G gM, kMM, ⟨_, PySem.W.mg_of X G gHi⟩, ⟨_, PySem.W.mg_of X G gMp⟩, ⟨_, PySem.W.mg_of X G gMu⟩, ⟨_, PySem.W.mg_of X G gMd⟩⟩
  refine ⟨PySem.W.fnOf "law" "law" (defArgs s_law) (defBody s_law) (defScope s_law) .none kV_law dc_law pm_law an_law cd_law ct_law, fun s v => .of_eq rfl, fun base _ _ => ?_⟩
  have pr := prog_rd (P := l.prog) (base := base) (cA := cA) T M D_whole D_betw D_oneof D_option D_options D_most D_icell D_ilimit D_form D_children D_size D_asks D_wrong D_count D_unroll D_wpath D_cpart D_rinit G_Reader c_Reader n_Reader_own_part n_Reader_own_level m_rinit r_part xNoPart
  have cSz := law_size (P := l.prog) (w := w) (base := base) (cA := cA) T D_lchildren D_lsize
  have lp := law_part (P := l.prog) (w := w) (base := base) (cA := cA) T D_pool D_draw D_lleaf D_lopts D_lctd D_lwth D_lpart cSz
  have mRd := pr
  obtain ⟨cPo, cD, cP⟩ := lp
  have R : Rdr K cA mg f_rinit p_rpart f_rpart := ⟨⟨c_Reader, n_Reader_own_part⟩, ⟨c_Reader, n_Reader_own_level⟩, m_rinit, G_Reader, m_rpart⟩
  have pPa := d_rpart (P := l.prog) (w := w) (mg := mg) (base := base) D_rpart T R
  have cW := d_whole (P := l.prog) (w := w) (base := base) (cA := cA) D_whole T
  have cB := d_betw D_betw T cW
  have cC := d_children (P := l.prog) (w := w) (base := base) (cA := cA) D_children T
  have cSu : ∀ n, n ≤ 100 → Fnc l.prog w K mg base (n + 1) "subparts" (upSp ⟨K, cA⟩ (spSub n)) := fun n => by
    induction n with
    | zero => exact fun _ => D_sub.never fun ds S Q E h => by obtain ⟨d, rfl, h, _⟩ := opt_one h; cases h
    | succ n ih => exact fun hn => d_sub D_sub T (by omega) cC (ih (by omega))
  have cCM := d_childM (P := l.prog) (w := w) (base := base) (cA := cA) D_childM T
  have cWk := d_wkids (P := l.prog) (w := w) (base := base) (cA := cA) D_wkids T
  have cRp : ∀ n, Fnc l.prog w K mg base (n + 1) "replaced" (upSp ⟨K, cA⟩ (spRepl n)) := fun n => by
    induction n with
    | zero => exact D_repl.never fun ds S Q E h => by obtain ⟨_, _, _, rfl, _, _, _, _, h, _⟩ := opt_three h; cases h
    | succ n ih => exact d_repl D_repl T cCM cWk ih
  have cPa := d_partat (n := 8) D_partat T cC
  have cHi := d_howix (P := l.prog) (w := w) (base := base) (cA := cA) D_howix T
  have cWf := d_wfield (P := l.prog) (w := w) (base := base) (cA := cA) D_wfield T
  have cOw := d_ownw D_ownw T cHi
  have cSi := d_sites D_sites T pPa (cSu 8 (by omega)) cOw
  have kEmpty : KDat K aE emptyD := kdat_tup kE kE1 rfl kE2 kE3 (fun c w N H e => .cons (.str _) (.cons (.tup (.inr (by rw [e]; exact ⟨_, _, _, kF, kF1, rfl, kF2, kF3⟩)) .nil) .nil))
  have cWw := d_woword D_woword T (PySem.W.mg_of X G gE) kEmpty cHi cWf
  have cHp := d_haspath D_haspath T cB (cSu 8 (by omega))
  have cCk := d_cksites D_cksites T xNoWord pPa cSi cHp
  have cWo := d_without F_without.g hm_without (bindStar1 (a := (defArgs s_without).args.head!) (v := (defArgs s_without).vararg.get!) rfl rfl rfl rfl rfl rfl) T mRd pPa cSi cCk ((cRp 8).mono (by omega)) cWw cPa
  have cKe := d_kept F_kept.g hm_kept (bindStar1 (a := (defArgs s_kept).args.head!) (v := (defArgs s_kept).vararg.get!) rfl rfl rfl rfl rfl rfl) T cSi cCk cWo
  have cFm := d_fmt D_fmt T cKe
  have eRd := d_req (P := l.prog) (w := w) (base := base) D_req T R i_Reader m_req i_req
  have cSa := d_same D_same T eRd ⟨i_Reader, fun T h => absurd h (by simp)⟩ cFm
  have cLc := d_lchildren (P := l.prog) (w := w) (base := base) (cA := cA) D_lchildren T
  have cCh : ∀ n, Fnc l.prog w K mg base (n + 1) "_law_checks" (upSp ⟨K, cA⟩ (spChk n)) := fun n => by
    induction n with
    | zero => exact D_lchecks.never fun ds S Q E h => by obtain ⟨_, _, rfl, _, _, _, h, _⟩ := opt_two h; cases h
    | succ n ih => exact d_lchecks D_lchecks T cLc ih
  have cFi := d_lfield (P := l.prog) (w := w) (base := base) (cA := cA) D_lfield T
  have cLe : ∀ n, Fnc l.prog w K mg base (n + 1) "_law_less" (upSp ⟨K, cA⟩ (spLess n)) := fun n => by
    induction n with
    | zero => exact D_lless.never fun ds S Q E h => by obtain ⟨_, _, _, rfl, _, _, _, _, _, h, _⟩ := opt_three h; cases h
    | succ n ih => exact d_lless D_lless T cLc cFi ih
  have cLw := d_lwithout D_lwithout T cWo
  have cLk := d_lkept D_lkept T cKe
  have cLx := d_lwrong (xNoWord := xNoWord) h_NoWord D_lwrong T cWo cKe
  have cTa := d_ltakes D_ltakes T cD (cCh 8) (cLe 8) cLw cLk cLx cSi cFm cSa mRd pPa
  exact (d_law D_law T cPo cP cTa (cCh 8) (cLe 8) cSa mRd).imp fun vs H Q E h => top_of (fun ns S Q E hl hq => ⟨ns, rfl, hl, hq⟩) h
theorem walk {l : PySem.W.OpenLaw} {q : Program} {loose : List Str} {XP : (Str → Option Value) → Heap → Prop} {YP : World → Heap → Prop} {d : DefRec} {K : Params → PySem.W.Frag} (hn : l.most = some 63) (hdf : d.params.defaults = [])
    (hY : ∀ (w : World) (h : Heap), YP w h → (K w.params).In h)
    (F : ∀ (w : World) (mg : Str → Option Value) (fa : Addr) (h : Heap), (K w.params).In h → h.Ns mainGlobals mg → mg d.name = some (.ref fa) →
      ∃ fd : FuncData, (∀ (s : Shared) (u : Value), BindsTo s fd ⟨[u], []⟩ [("script", u)]) ∧ ∀ base : Heap, (K w.params).In base → base.Ns mainGlobals mg → FnOk l.prog w (K w.params) mg base (L2N.CX l.prog w) 26 fa fd ["script"] (A.spTop (K w.params))) :
    PySem.W.WalkO q loose XP YP l.row.toRowW d [] (fun f vs => PySem.call f vs) :=
  L2.walk_of (n := 63) (k := 26) (x := "script") (CX := fun w => L2N.CX l.prog w) (sp := fun w => A.spTop (K w.params)) hn (by decide) hdf ⟨rfl, by decide, by decide⟩ hY F (fun _ _ a ns hl hO hS => ⟨a, ns, rfl, hO, hS, hl, fun _ => rfl⟩) fun _ _ _ _ _ ⟨_, _, _, _, _, _, _, _, _, _, _, _, z⟩ => z

end W

set_option Elab.async false
set_option linter.all false
set_option pp.maxSteps 60
set_option pp.deepTerms false
open PySem PySem.W PySem.Calls PyProof.Rows
set_option maxRecDepth 100000 in
set_option maxHeartbeats 0 in
theorem PySem.Challenge.cw_withinlimits_k55_checks_of_readers_holds : PySem.Challenge.rw_withinlimits_k55_checks_of_readers.Holds := by
  w_on; o_law
  refine HandSHeadRun.head_any (r := W.hRow) (q := W.hView) (H := kHook W.kd.heap_1 W.hAs W.hAsE) (ob := fun s => List.map (HandSHeadRun.getT s) W.hAs) (M := 30000) (loose := W.hLoose) (d := HandSHeadRun.topDef W.hRow.prog 82) (kwd := []) (fun s => W.hOb s) (by kernel_rfl) (fun s => by kernel_rfl) W.hRun (by kernel_rfl) (by kernel_rfl) (by kernel_rfl) (by rfl) (by first | assumption | decide +kernel) (by decide +kernel) ⟨rfl, rfl, rfl, rfl, rfl, by decide +kernel⟩ ?_ ?_
  · w_witness2
  k_fill
  refine W.walk (l := PySem.Challenge.rw_withinlimits_k55_checks_of_readers) rfl (by kernel_rfl) (fun w h Y => PySem.W.kIn_of Y) ?F
  case F =>
    intro w mg fa h KX G hmg0
    have hmg : mg ("law" : PySem.Str) = some (.ref fa) := by
      have e : (HandSHeadRun.topDef W.hRow.prog 82).name = ("law" : PySem.Str) := by kernel_rfl
      rw [← e]
      exact hmg0
    refine' W.all_mk KX G hmg ?a_whole ?a_betw ?a_oneof ?a_option ?a_options ?a_most ?a_icell ?a_ilimit ?a_form ?a_children ?a_size ?a_asks ?a_wrong ?a_count ?a_unroll ?a_wpath ?a_cpart ?a_lchildren ?a_lsize ?a_pool ?a_draw ?a_lleaf ?a_lopts ?a_lctd ?a_lwth ?a_lpart ?a_sub ?a_childM ?a_partat ?a_wkids ?a_repl ?a_haspath ?a_howix ?a_wfield ?a_ownw ?a_sites ?a_woword ?a_cksites ?a_without ?a_kept ?a_fmt ?a_same ?a_lchecks ?a_lfield ?a_lless ?a_lwithout ?a_lkept ?a_lwrong ?a_ltakes ?a_law ?g_Reader ?c_Reader ?n_Reader_own_part ?n_Reader_own_level ?m_rinit ?m_rpart ?m_req ?i_req ?xNoWord ?i_Reader ?h_NoWord ?r_part ?xNoPart ?l_whole ?o_whole ?k_whole ?l_betw ?o_betw ?k_betw ?l_oneof ?o_oneof ?k_oneof ?l_option ?o_option ?k_option ?l_options ?o_options ?k_options ?l_most ?o_most ?k_most ?l_icell ?o_icell ?k_icell ?l_ilimit ?o_ilimit ?k_ilimit ?l_form ?o_form ?k_form ?l_children ?o_children ?k_children ?l_size ?o_size ?k_size ?l_asks ?o_asks ?k_asks ?l_wrong ?o_wrong ?k_wrong ?l_count ?o_count ?k_count ?l_unroll ?o_unroll ?k_unroll ?l_wpath ?o_wpath ?k_wpath ?l_cpart ?o_cpart ?k_cpart ?l_lchildren ?o_lchildren ?k_lchildren ?l_lsize ?o_lsize ?k_lsize ?l_pool ?o_pool ?k_pool ?l_draw ?o_draw ?k_draw ?l_lleaf ?o_lleaf ?k_lleaf ?l_lopts ?o_lopts ?k_lopts ?l_lctd ?o_lctd ?k_lctd ?l_lwth ?o_lwth ?k_lwth ?l_lpart ?o_lpart ?k_lpart ?l_sub ?o_sub ?k_sub ?l_childM ?o_childM ?k_childM ?l_partat ?o_partat ?k_partat ?l_wkids ?o_wkids ?k_wkids ?l_repl ?o_repl ?k_repl ?l_haspath ?o_haspath ?k_haspath ?l_howix ?o_howix ?k_howix ?l_wfield ?o_wfield ?k_wfield ?l_ownw ?o_ownw ?k_ownw ?l_sites ?o_sites ?k_sites ?l_woword ?o_woword ?k_woword ?l_cksites ?o_cksites ?k_cksites ?l_without ?o_without ?k_without ?l_kept ?o_kept ?k_kept ?l_fmt ?o_fmt ?k_fmt ?l_same ?o_same ?k_same ?l_lchecks ?o_lchecks ?k_lchecks ?l_lfield ?o_lfield ?k_lfield ?l_lless ?o_lless ?k_lless ?l_lwithout ?o_lwithout ?k_lwithout ?l_lkept ?o_lkept ?k_lkept ?l_lwrong ?o_lwrong ?k_lwrong ?l_ltakes ?o_ltakes ?k_ltakes ?l_law ?o_law ?k_law ?l_rinit ?o_rinit ?k_rinit ?l_rpart ?o_rpart ?k_rpart ?l_req ?o_req ?k_req ?gH ?kH ?kH1 ?kH2 ?kH3 ?gL ?kL ?kL1 ?kL2 ?kL3 ?gRe ?kRe ?kRe1 ?kRe2 ?kRe3 ?gM ?kM ?kM1 ?kM2 ?kM3 ?kM4 ?kM5 ?gHi ?gMp ?gMu ?gMd ?gE ?kE ?kE1 ?kE2 ?kE3 ?kF ?kF1 ?kF2 ?kF3 ?z_len ?z_abs ?z_int ?z_str ?z_range ?z_list ?z_tuple ?z_dict ?z_sum ?z_isinstance ?z_enumerate ?z_zip ?z_max ?z_min ?z_bool ?z_any ?z_all
    (case a_whole => k_is)
    (case a_betw => k_is)
    (case a_oneof => k_is)
    (case a_option => k_is)
    (case a_options => k_is)
    (case a_most => k_is)
    (case a_icell => k_is)
    (case a_ilimit => k_is)
    (case a_form => k_is)
    (case a_children => k_is)
    (case a_size => k_is)
    (case a_asks => k_is)
    (case a_wrong => k_is)
    (case a_count => k_is)
    (case a_unroll => k_is)
    (case a_wpath => k_is)
    (case a_cpart => k_is)
    (case a_lchildren => k_is)
    (case a_lsize => k_is)
    (case a_pool => k_is)
    (case a_draw => k_is)
    (case a_lleaf => k_is)
    (case a_lopts => k_is)
    (case a_lctd => k_is)
    (case a_lwth => k_is)
    (case a_lpart => k_is)
    (case a_sub => k_is)
    (case a_childM => k_is)
    (case a_partat => k_is)
    (case a_wkids => k_is)
    (case a_repl => k_is)
    (case a_haspath => k_is)
    (case a_howix => k_is)
    (case a_wfield => k_is)
    (case a_ownw => k_is)
    (case a_sites => k_is)
    (case a_woword => k_is)
    (case a_cksites => k_is)
    (case a_without => k_is)
    (case a_kept => k_is)
    (case a_fmt => k_is)
    (case a_same => k_is)
    (case a_lchecks => k_is)
    (case a_lfield => k_is)
    (case a_lless => k_is)
    (case a_lwithout => k_is)
    (case a_lkept => k_is)
    (case a_lwrong => k_is)
    (case a_ltakes => k_is)
    (case a_law => k_is)
    (case g_Reader => k_is)
    (case c_Reader => exact ⟨by k_is, by k_is, by k_is, by k_is⟩)
    (case n_Reader_own_part => (unfold L2.NoAttr; k_is))
    (case n_Reader_own_level => (unfold L2.NoAttr; k_is))
    (case m_rinit => exact ⟨by k_is, by k_is, by k_is, by k_is⟩)
    (case m_rpart => exact ⟨by k_is, by k_is, by k_is, ⟨_, by k_is⟩⟩)
    (case m_req => k_is)
    (case i_req => k_is)
    (case xNoWord => (refine' L2.XCls.of ?wd KX G ?gC ?cls ?rv ?iC ?tI ?fn ?ps ?cd ?cv ?fl ?fm ?ce ?ini ?sa ?noN ?hD ?subD ?subV ?opq ?sup ?top ?kC ?exC ?tyC ?ga ?gg ?hdC ?su; (case gC => k_is); (case cls => k_is); (case rv => rfl); (case iC => k_is); (case tI => k_is); (case fn => k_is); (case wd => exact ⟨fun _ _ _ _ _ _ _ _ _ _ _ _ => rfl, rfl, rfl, rfl, rfl, by decide, by decide⟩); (case ps => rfl); (case cd => k_is); (case cv => k_is); (case fl => rfl); (case fm => decide +kernel); (case ce => k_is); (case ini => kx_is); (case sa => k_is); (case noN => k_is); (case hD => k_is); (case subD => k_is); (case subV => k_is); (case opq => k_is); (case sup => ks_is); (case top => decide +kernel); (case kC => k_is); (case exC => k_is); (case tyC => k_is); (case ga => k_is); (case gg => k_is); (case hdC => k_is); (case su => k_is)))
    (case i_Reader => exact ⟨⟨by k_is, by k_is, by k_is, by k_is⟩, by k_is, by k_is, by k_is, by k_is, if_pos (beq_self_eq_true _)⟩)
    (case h_NoWord => first | kts_exm | kernel_rfl)
    (case r_part => exact ⟨by k_is, by k_is, by k_is, ⟨_, by k_is⟩⟩)
    (case xNoPart => (refine' L2.XCls.of ?wd KX G ?gC ?cls ?rv ?iC ?tI ?fn ?ps ?cd ?cv ?fl ?fm ?ce ?ini ?sa ?noN ?hD ?subD ?subV ?opq ?sup ?top ?kC ?exC ?tyC ?ga ?gg ?hdC ?su; (case gC => k_is); (case cls => k_is); (case rv => rfl); (case iC => k_is); (case tI => k_is); (case fn => k_is); (case wd => exact ⟨fun _ _ _ _ _ _ _ _ _ _ _ _ => rfl, rfl, rfl, rfl, rfl, by decide, by decide⟩); (case ps => rfl); (case cd => k_is); (case cv => k_is); (case fl => rfl); (case fm => decide +kernel); (case ce => k_is); (case ini => kx_is); (case sa => k_is); (case noN => k_is); (case hD => k_is); (case subD => k_is); (case subV => k_is); (case opq => k_is); (case sup => ks_is); (case top => decide +kernel); (case kC => k_is); (case exC => k_is); (case tyC => k_is); (case ga => k_is); (case gg => k_is); (case hdC => k_is); (case su => k_is)))
    (case l_whole => k_is)
    (case o_whole => k_is)
    (case k_whole => k_is)
    (case l_betw => k_is)
    (case o_betw => k_is)
    (case k_betw => k_is)
    (case l_oneof => k_is)
    (case o_oneof => k_is)
    (case k_oneof => k_is)
    (case l_option => k_is)
    (case o_option => k_is)
    (case k_option => k_is)
    (case l_options => k_is)
    (case o_options => k_is)
    (case k_options => k_is)
    (case l_most => k_is)
    (case o_most => k_is)
    (case k_most => k_is)
    (case l_icell => k_is)
    (case o_icell => k_is)
    (case k_icell => k_is)
    (case l_ilimit => k_is)
    (case o_ilimit => k_is)
    (case k_ilimit => k_is)
    (case l_form => k_is)
    (case o_form => k_is)
    (case k_form => k_is)
    (case l_children => k_is)
    (case o_children => k_is)
    (case k_children => k_is)
    (case l_size => k_is)
    (case o_size => k_is)
    (case k_size => k_is)
    (case l_asks => k_is)
    (case o_asks => k_is)
    (case k_asks => k_is)
    (case l_wrong => k_is)
    (case o_wrong => k_is)
    (case k_wrong => k_is)
    (case l_count => k_is)
    (case o_count => k_is)
    (case k_count => k_is)
    (case l_unroll => k_is)
    (case o_unroll => k_is)
    (case k_unroll => k_is)
    (case l_wpath => k_is)
    (case o_wpath => k_is)
    (case k_wpath => k_is)
    (case l_cpart => k_is)
    (case o_cpart => k_is)
    (case k_cpart => k_is)
    (case l_lchildren => k_is)
    (case o_lchildren => k_is)
    (case k_lchildren => k_is)
    (case l_lsize => k_is)
    (case o_lsize => k_is)
    (case k_lsize => k_is)
    (case l_pool => k_is)
    (case o_pool => k_is)
    (case k_pool => k_is)
    (case l_draw => k_is)
    (case o_draw => k_is)
    (case k_draw => k_is)
    (case l_lleaf => k_is)
    (case o_lleaf => k_is)
    (case k_lleaf => k_is)
    (case l_lopts => k_is)
    (case o_lopts => k_is)
    (case k_lopts => k_is)
    (case l_lctd => k_is)
    (case o_lctd => k_is)
    (case k_lctd => k_is)
    (case l_lwth => k_is)
    (case o_lwth => k_is)
    (case k_lwth => k_is)
    (case l_lpart => k_is)
    (case o_lpart => k_is)
    (case k_lpart => k_is)
    (case l_sub => k_is)
    (case o_sub => k_is)
    (case k_sub => k_is)
    (case l_childM => k_is)
    (case o_childM => k_is)
    (case k_childM => k_is)
    (case l_partat => k_is)
    (case o_partat => k_is)
    (case k_partat => k_is)
    (case l_wkids => k_is)
    (case o_wkids => k_is)
    (case k_wkids => k_is)
    (case l_repl => k_is)
    (case o_repl => k_is)
    (case k_repl => k_is)
    (case l_haspath => k_is)
    (case o_haspath => k_is)
    (case k_haspath => k_is)
    (case l_howix => k_is)
    (case o_howix => k_is)
    (case k_howix => k_is)
    (case l_wfield => k_is)
    (case o_wfield => k_is)
    (case k_wfield => k_is)
    (case l_ownw => k_is)
    (case o_ownw => k_is)
    (case k_ownw => k_is)
    (case l_sites => k_is)
    (case o_sites => k_is)
    (case k_sites => k_is)
    (case l_woword => k_is)
    (case o_woword => k_is)
    (case k_woword => k_is)
    (case l_cksites => k_is)
    (case o_cksites => k_is)
    (case k_cksites => k_is)
    (case l_without => k_is)
    (case o_without => k_is)
    (case k_without => k_is)
    (case l_kept => k_is)
    (case o_kept => k_is)
    (case k_kept => k_is)
    (case l_fmt => k_is)
    (case o_fmt => k_is)
    (case k_fmt => k_is)
    (case l_same => k_is)
    (case o_same => k_is)
    (case k_same => k_is)
    (case l_lchecks => k_is)
    (case o_lchecks => k_is)
    (case k_lchecks => k_is)
    (case l_lfield => k_is)
    (case o_lfield => k_is)
    (case k_lfield => k_is)
    (case l_lless => k_is)
    (case o_lless => k_is)
    (case k_lless => k_is)
    (case l_lwithout => k_is)
    (case o_lwithout => k_is)
    (case k_lwithout => k_is)
    (case l_lkept => k_is)
    (case o_lkept => k_is)
    (case k_lkept => k_is)
    (case l_lwrong => k_is)
    (case o_lwrong => k_is)
    (case k_lwrong => k_is)
    (case l_ltakes => k_is)
    (case o_ltakes => k_is)
    (case k_ltakes => k_is)
    (case l_law => k_is)
    (case o_law => k_is)
    (case k_law => k_is)
    (case l_rinit => k_is)
    (case o_rinit => k_is)
    (case k_rinit => k_is)
    (case l_rpart => k_is)
    (case o_rpart => k_is)
    (case k_rpart => k_is)
    (case l_req => k_is)
    (case o_req => k_is)
    (case k_req => k_is)
    (case gH => k_is)
    (case kH => k_is)
    (case kH1 => rfl)
    (case kH2 => decide)
    (case kH3 => (first | exact .cons ⟨_, rfl⟩ (.cons ⟨_, rfl⟩ (.nil)) | (repeat' constructor)))
    (case gL => k_is)
    (case kL => k_is)
    (case kL1 => rfl)
    (case kL2 => decide)
    (case kL3 => (first | exact .cons ⟨_, rfl⟩ (.cons ⟨_, rfl⟩ (.cons ⟨_, rfl⟩ (.nil))) | (repeat' constructor)))
    (case gRe => k_is)
    (case kRe => k_is)
    (case kRe1 => rfl)
    (case kRe2 => decide)
    (case kRe3 => (first | exact .cons ⟨_, rfl⟩ (.cons ⟨_, rfl⟩ (.nil)) | (repeat' constructor)))
    (case gM => k_is)
    (case kM => k_is)
    (case kM1 => rfl)
    (case kM2 => rfl)
    (case kM3 => rfl)
    (case kM4 => (first | exact ⟨⟨_, rfl⟩, rfl, ⟨_, rfl⟩, ⟨⟨_, rfl⟩, rfl, ⟨_, rfl⟩, ⟨⟨_, rfl⟩, rfl, ⟨_, rfl⟩, ⟨⟨_, rfl⟩, rfl, ⟨_, rfl⟩, ⟨⟨_, rfl⟩, rfl, ⟨_, rfl⟩, ⟨⟨_, rfl⟩, rfl, ⟨_, rfl⟩, ⟨⟨_, rfl⟩, rfl, ⟨_, rfl⟩, ⟨⟨_, rfl⟩, rfl, ⟨_, rfl⟩, ⟨⟨_, rfl⟩, rfl, ⟨_, rfl⟩, ⟨⟨_, rfl⟩, rfl, ⟨_, rfl⟩, trivial⟩⟩⟩⟩⟩⟩⟩⟩⟩⟩))
    (case kM5 => (first | rfl | decide))
    (case gHi => k_is)
    (case gMp => k_is)
    (case gMu => k_is)
    (case gMd => k_is)
    (case gE => k_is)
    (case kE => k_is)
    (case kE1 => rfl)
    (case kE2 => decide)
    (case kE3 => (first | exact .cons ⟨_, rfl⟩ (.cons rfl .nil) | (repeat' constructor)))
    (case kF => k_is)
    (case kF1 => rfl)
    (case kF2 => decide)
    (case kF3 => exact .nil)
    (case z_len => k_is)
    (case z_abs => k_is)
    (case z_int => k_is)
    (case z_str => k_is)
    (case z_range => k_is)
    (case z_list => k_is)
    (case z_tuple => k_is)
    (case z_dict => k_is)
    (case z_sum => k_is)
    (case z_isinstance => k_is)
    (case z_enumerate => k_is)
    (case z_zip => k_is)
    (case z_max => k_is)
    (case z_min => k_is)
    (case z_bool => k_is)
    (case z_any => k_is)
    (case z_all => k_is)

