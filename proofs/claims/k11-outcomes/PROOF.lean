import PyProof.Rows.All
import Wide.All
import OpenK.AllK
import Wide.FinOn
import HandS.ForMost
import HandS.Wide
import HandS.Walk
import HandS.Rev
import HandS.Flt
import HandS.RaiseMore
import PyProof.NeData
import KE.KSuper
import HandS.Nested
import HandS.OwnEq
import PyProof.InstEq
import HandS.IsInst
import HandS.FStr
import KE.RegKSuper
import PySem.Challenge.RW_sourcequeue_k11_outcomes
set_option Elab.async false
set_option linter.all false
set_option maxRecDepth 100000
set_option maxHeartbeats 4000000
/-! A layer of our own over HandS: readings that compute (a match on the values in place of an existence), rules that serve several kinds of values, heaps, sources. -/
namespace L2
open PySem PySem.Spec PyProof.Rows

/-! ### weaker readings -/
section
variable {X : Cx}
theorem PE.weak {e : Expr} {t t' : TE} (h : PE X e t) (w : ∀ σ H Q, t' σ H Q → t σ H Q) : PE X e t' := ⟨fun pins s σ H Q I q => h.run pins s σ H Q I (w σ H Q q)⟩
theorem PT.weak {e : Expr} {t t' : TT} (h : PT X e t) (w : ∀ σ H Q, t' σ H Q → t σ H Q) : PT X e t' := ⟨fun pins s σ H Q I q => h.run pins s σ H Q I (w σ H Q q)⟩
theorem PW.weak {e : Expr} {t t' : TT} (h : PW X e t) (w : ∀ σ H Q, t' σ H Q → t σ H Q) : PW X e t' := ⟨fun wh pins s σ H Q I q => h.run wh pins s σ H Q I (w σ H Q q)⟩
theorem PS.weak {st : Stmt} {t t' : TS} (h : PS X st t) (w : ∀ D σ H, t' D σ H → t D σ H) : PS X st t' := ⟨fun pins s σ H D I q => h.run pins s σ H D I (w D σ H q)⟩
theorem PSs.weak {st : List Stmt} {t t' : TS} (h : PSs X st t) (w : ∀ D σ H, t' D σ H → t D σ H) : PSs X st t' := ⟨fun pins s σ H D I q => h.run pins s σ H D I (w D σ H q)⟩
theorem PI.weak {tg iter : Expr} {t t' : TI} (h : PI X tg iter t) (w : ∀ σ H R, t' σ H R → t σ H R) : PI X tg iter t' := ⟨fun pins s σ H R I q => h.run pins s σ H R I (w σ H R q)⟩
theorem PI.or {tg iter : Expr} {wi wi' : TI} (h : PI X tg iter wi) (h' : PI X tg iter wi') : PI X tg iter (fun σ H R => wi σ H R ∨ wi' σ H R) :=
  ⟨fun pins s σ H R I q => q.elim (fun q => h.run pins s σ H R I q) fun q => h'.run pins s σ H R I q⟩
theorem PE.or {e : Expr} {t t' : TE} (h : PE X e t) (h' : PE X e t') : PE X e (fun σ H Q => t σ H Q ∨ t' σ H Q) :=
  ⟨fun pins s σ H R I q => q.elim (fun q => h.run pins s σ H R I q) fun q => h'.run pins s σ H R I q⟩
theorem OpR.weak {f : Value → Value → Sem Value} {r r' : R2} (h : OpR X f r) (w : ∀ x y H Q, r' x y H Q → r x y H Q) : OpR X f r' := fun pins s σ H x y v u Q I rx ry q => h pins s σ H x y v u Q I rx ry (w x y H Q q)
theorem CallR.weak {f : Value} {r r' : List V → Hp → VK → Prop} (h : CallR X f r) (w : ∀ xs H Q, r' xs H Q → r xs H Q) : CallR X f r' := fun pins s σ H xs us Q I rx q => h pins s σ H xs us Q I rx (w xs H Q q)
theorem IxR.weak {r r' : R2} (h : IxR X r) (w : ∀ x y H Q, r' x y H Q → r x y H Q) : IxR X r' := fun va sl pins s σ H x y v u Q I rx ry q => h va sl pins s σ H x y v u Q I rx ry (w x y H Q q)
theorem MtR.weak {id : String} {r r' : V → List V → Hp → VK → Prop} (h : MtR X id r) (w : ∀ x xs H Q, r' x xs H Q → r x xs H Q) : MtR X id r' := fun pins s σ H x xs v us Q I rx rs q => h pins s σ H x xs v us Q I rx rs (w x xs H Q q)
theorem PSet.weak {t t' : TSet} (h : PSet X t) (w : ∀ o i v H Q, t' o i v H Q → t o i v H Q) : PSet X t' := fun pins s σ H o i v ov iv u Q I r1 r2 r3 q => h pins s σ H o i v ov iv u Q I r1 r2 r3 (w o i v H Q q)
end

/-! ### ** of greater numbers -/
def CPowW (i j : Int) : Prop := 0 ≤ j ∧ (Builtin.Int.intBits i : Int) * j ≤ 2 ^ 27
theorem pow_bits {i j : Int} {a : Nat} (ha : i.natAbs < 2 ^ a) (h0 : 0 < a) (hj : 0 ≤ j) (h : ((a : Int) + 1) * j ≤ 2 ^ 27) : CPowW i j := by
  refine ⟨hj, ?_⟩
  have x := PySem.Flt.log2_lt_of h0 ha
  have b : Builtin.Int.intBits i ≤ i.natAbs.log2 + 1 := by
    unfold Builtin.Int.intBits
    split <;> omega
  have h2 : (Builtin.Int.intBits i : Int) ≤ (a : Int) + 1 := by omega
  exact Int.le_trans (Int.mul_le_mul_of_nonneg_right h2 hj) h
theorem log2_small {i : Int} {a : Nat} (ha : i.natAbs < 2 ^ a) (h0 : 0 < a) (h : a ≤ 1920) : i.natAbs.log2 < 1920 := Nat.lt_of_lt_of_le (PySem.Flt.log2_lt_of h0 ha) h

/-! ### names, branches -/
def br (b : Bool) (A B : Prop) : Prop := (b = true → A) ∧ (b = false → B)
theorem br.ite {b : Bool} {A B : Prop} (h : br b A B) : if b = true then A else B := by
  cases b with
  | true => rw [if_pos rfl]; exact h.1 rfl
  | false => rw [if_neg Bool.false_ne_true]; exact h.2 rfl
theorem br.t {A B : Prop} (h : A) : br true A B := ⟨fun _ => h, fun z => Bool.noConfusion z⟩
theorem br.f {A B : Prop} (h : B) : br false A B := ⟨fun z => Bool.noConfusion z, fun _ => h⟩
def tV (i : Nat) : TE := fun σ H Q => match σ[i]? with | some (some v) => Q v H | _ => False
theorem tV_of {i : Nat} {σ : St} {H : Hp} {Q : VK} (h : tV i σ H Q) : tVar i σ H Q := by
  unfold tV at h
  split at h
  · rename_i v e; exact ⟨v, e, h⟩
  · exact h.elim
def tTst (t : TE) : TT := fun σ H Q => t σ H fun x H1 => match x with | .bl k => Q k H1 | _ => False
def tAndC (t u : TT) : TT := fun σ H Q => t σ H fun c H1 => br c (u σ H1 Q) (Q false H1)
def tOrC (t u : TT) : TT := fun σ H Q => t σ H fun c H1 => br c (Q true H1) (u σ H1 Q)
def tIfC (t : TT) (ta tb : TE) : TE := fun σ H Q => t σ H fun c H1 => br c (ta σ H1 Q) (tb σ H1 Q)
def tIfSC (c : TT) (t u : TS) : TS := fun D σ H => c σ H fun b H1 => br b (t D σ H1) (u D σ H1)
def tAndVC (ta tb : TE) : TE := fun σ H Q => ta σ H fun x H1 => match x with | .bl c => br c (tb σ H1 Q) (Q (.bl false) H1) | _ => False
def tOrVC (ta tb : TE) : TE := fun σ H Q => ta σ H fun x H1 => match x with | .bl c => br c (Q (.bl true) H1) (tb σ H1 Q) | _ => False
def tNotVC (ta : TT) : TE := fun σ H Q => ta σ H fun c H1 => Q (.bl (!c)) H1
/-- a test's answers are joined: what is known of them stands in P -/
def tJn (t : TT) : TT := fun σ H Q => ∃ P : Bool → Hp → Prop, t σ H P ∧ ∀ b H', P b H' → Q b H'
/-- a statement's ends are joined -/
def tCt (t : TS) : TS := fun D σ H => ∃ P : St → Hp → Prop, t { D with nx := P } σ H ∧ ∀ σ' H', P σ' H' → D.nx σ' H'
section
variable {X : Cx} {e a b c : Expr} {rest : List Expr} {te ta tb : TE} {tA tB : TT} {pos : Pos}
theorem cv (i : Nat) {x : Str} {pos : Pos} (hN : X.N[i]? = some x := by rfl) (hv : Vis X.env.scope x := by first | exact Or.inl rfl | exact Or.inr (Or.inl rfl) | exact Or.inr (Or.inr rfl)) (hd : (x == ("__debug__" : Str)) = false := by decide)
    (hcd : (x == ("__classdict__" : Str)) = false := by decide) : PE X (.Name x pos) (tV i) := (pe_var hN hv hd hcd).weak fun _ _ _ h => tV_of h
theorem run_bl {pins : List (Addr × Obj)} {s : Shared} {σ : St} {H : Hp} {Q : Bool → Hp → Prop} {t : Sem Value} (h : wpAny (model X.prog X.w) X.A t (EP X pins σ (fun x H1 => match x with | .bl k => Q k H1 | _ => False)) X.xe s) :
    wpAny (model X.prog X.w) X.A t (EP X pins σ (fun x H1 => ∃ k, x = .bl k ∧ Q k H1)) X.xe s := by
  refine thn h fun v s1 hv => ?_
  obtain ⟨x, H1, I1, r1, q1⟩ := hv
  cases x with
  | bl k => exact ⟨_, H1, I1, r1, k, rfl, q1⟩
  | _ => exact q1.elim
theorem PE.bl (h : PE X e te) : PE X e (fun σ H Q => te σ H fun x H1 => match x with | .bl k => Q (.bl k) H1 | _ => False) := ⟨fun pins s σ H Q I q => by
  refine thn (h.run pins s σ H _ I q) fun v s1 hv => ?_
  obtain ⟨x, H1, I1, r1, q1⟩ := hv
  cases x with
  | bl k => exact ⟨_, H1, I1, r1, q1⟩
  | _ => exact q1.elim⟩
theorem ct_val (h : PE X e te) (he : ∀ whole, isTrue e X.env whole = (do let v ← whole; standAt e.pos; holding [v] (truthy v)) := by intro _; rfl) : PT X e (tTst te) := ⟨fun pins s σ H Q I q => by
  have h2 : PE X e (fun σ H Q => te σ H fun x H1 => match x with | .bl k => Q (.bl k) H1 | _ => False) := h.bl
  have h3 := pt_val h2 he
  exact h3.run pins s σ H Q I (by
    show te σ H _
    have q' : te σ H fun x H1 => match x with | .bl k => Q k H1 | _ => False := q
    have eq : (fun x H1 => match x with | .bl k => Q k H1 | _ => False) = (fun (x : V) (H1 : Hp) => match x with | .bl k => (fun (x : V) (H' : Hp) => ∃ k, x = .bl k ∧ Q k H') (.bl k) H1 | _ => False) := by
      funext x H1
      cases x with
      | bl k => exact propext ⟨fun q => ⟨k, rfl, q⟩, fun ⟨k', e, q⟩ => by cases e; exact q⟩
      | _ => rfl
    rw [eq] at q'
    exact q')⟩
theorem OpR.bl {f : Value → Value → Sem Value} {r : R2} (h : OpR X f r) : OpR X f (fun x y H Q => r x y H fun z H1 => match z with | .bl k => Q (.bl k) H1 | _ => False) := fun pins s σ H x y v u Q I rx ry q => by
  refine thn (h pins s σ H x y v u _ I rx ry q) fun v s1 hv => ?_
  obtain ⟨x, H1, I1, r1, q1⟩ := hv
  cases x with
  | bl k => exact ⟨_, H1, I1, r1, q1⟩
  | _ => exact q1.elim
theorem ct_cmp {op : CmpOp} {r : R2} (ho : OpR X (compareOp op) r) (ha : PE X a ta) (hb : PE X b tb) (hm : behindInMarks op b = false) : PT X (.Compare a [op] [b] pos) (tTst (tOp r ta tb)) :=
  (pt_cmpR ho.bl ha hb hm).weak fun σ H Q h => by
    have eq : (fun (x : V) (H1 : Hp) => match x with | .bl k => Q k H1 | _ => False) = (fun (x : V) (H1 : Hp) => match x with | .bl k => (fun (x : V) (H' : Hp) => ∃ k, x = .bl k ∧ Q k H') (.bl k) H1 | _ => False) := by
      funext x H1
      cases x with
      | bl k => exact propext ⟨fun q => ⟨k, rfl, q⟩, fun ⟨k', e, q⟩ => by cases e; exact q⟩
      | _ => rfl
    have h' : ta σ H fun x H1 => tb σ H1 fun y H2 => r x y H2 fun (x : V) (H1 : Hp) => match x with | .bl k => Q k H1 | _ => False := h
    rw [eq] at h'
    exact h'
theorem run_br {t : TT} {e : Expr} (h : PT X e t) {pins : List (Addr × Obj)} {s : Shared} {σ : St} {H : Hp} {A B : Hp → Prop} (I : Inv X pins σ H s) (q : t σ H fun c H1 => br c (A H1) (B H1)) :
    wpAny (model X.prog X.w) X.A (isTrue e X.env (eval e X.env)) (TP X pins σ fun c H1 => if c = true then A H1 else B H1) X.xe s :=
  thn (h.run pins s σ H _ I q) fun c s1 ⟨H1, I1, q1⟩ => ⟨H1, I1, q1.ite⟩
/-- the branch of a test as br -/
theorem PT.br2 (h : PT X e tA) : PT X e (fun σ H Q => tA σ H fun c H1 => L2.br c (Q true H1) (Q false H1)) := ⟨fun pins s σ H Q I q => by
  refine thn (h.run pins s σ H _ I q) fun c s1 ⟨H1, I1, q1⟩ => ⟨H1, I1, ?_⟩
  cases c with
  | true => exact q1.1 rfl
  | false => exact q1.2 rfl⟩
theorem br_if {c : Bool} {A B : Prop} : (if c = true then A else B) = br c A B := by
  cases c with
  | true => rw [if_pos rfl]; exact propext ⟨fun h => .t h, fun h => h.1 rfl⟩
  | false => rw [if_neg Bool.false_ne_true]; exact propext ⟨fun h => .f h, fun h => h.2 rfl⟩
theorem tAnd_eq (t u : TT) : tAnd t u = tAndC t u := by funext σ H Q; unfold tAnd tAndC; congr 1; funext c H1; exact br_if
theorem tOr_eq (t u : TT) : tOr t u = tOrC t u := by funext σ H Q; unfold tOr tOrC; congr 1; funext c H1; exact br_if
theorem tIf_eq (t : TT) (u v : TE) : tIf t u v = tIfC t u v := by funext σ H Q; unfold tIf tIfC; congr 1; funext c H1; exact br_if
theorem tIfS_eq (t : TT) (u v : TS) : tIfS t u v = tIfSC t u v := by funext D σ H; unfold tIfS tIfSC; congr 1; funext c H1; exact br_if
theorem cw_and (ha : PT X a tA) (hb : PW X (.BoolOp .And (b :: rest) pos) tB) : PW X (.BoolOp .And (a :: b :: rest) pos) (tAndC tA tB) := by rw [← tAnd_eq]; exact pw_and ha hb
theorem cw_or (ha : PT X a tA) (hb : PW X (.BoolOp .Or (b :: rest) pos) tB) : PW X (.BoolOp .Or (a :: b :: rest) pos) (tOrC tA tB) := by rw [← tOr_eq]; exact pw_or ha hb
theorem ce_if {c : Expr} (hc : PT X c tA) (ha : PE X a ta) (hb : PE X b tb) : PE X (.IfExp c a b pos) (tIfC tA ta tb) := by rw [← tIf_eq]; exact pe_ifExp hc ha hb
theorem cs_if {c : Expr} {a b : List Stmt} {tc : TT} {t u : TS} (hc : PT X c tc) (ha : PSs X a t) (hb : PSs X b u) : PS X (.If c a b pos) (tIfSC tc t u) := by rw [← tIfS_eq]; exact ps_if hc ha hb
theorem bl_eq {te : TE} {σ : St} {H : Hp} {f : Bool → Hp → Prop} : (te σ H fun x H1 => match x with | .bl c => f c H1 | _ => False) → (fun σ H (Q : VK) => te σ H fun x H1 => match x with | .bl k => Q (.bl k) H1 | _ => False) σ H fun x H1 => ∃ c, x = .bl c ∧ f c H1 := by
  intro h
  show te σ H _
  have eq : (fun (x : V) (H1 : Hp) => match x with | .bl c => f c H1 | _ => False) = (fun (x : V) (H1 : Hp) => match x with | .bl k => (fun (x : V) (H' : Hp) => ∃ k, x = .bl k ∧ f k H') (.bl k) H1 | _ => False) := by
    funext x H1
    cases x with
    | bl k => exact propext ⟨fun q => ⟨k, rfl, q⟩, fun ⟨k', e, q⟩ => by cases e; exact q⟩
    | _ => rfl
  rw [eq] at h
  exact h
theorem ce_and (ha : PE X a ta) (hb : PE X (.BoolOp .And (b :: rest) pos) tb) : PE X (.BoolOp .And (a :: b :: rest) pos) (tAndVC ta tb) :=
  (pe_and ha.bl hb).weak fun σ H Q h => bl_eq (f := fun c H1 => if c = true then tb σ H1 Q else Q (.bl false) H1) (by
    have h' : ta σ H fun x H1 => match x with | .bl c => br c (tb σ H1 Q) (Q (.bl false) H1) | _ => False := h
    have eq : (fun (x : V) (H1 : Hp) => match x with | .bl c => br c (tb σ H1 Q) (Q (.bl false) H1) | _ => False) = (fun (x : V) (H1 : Hp) => match x with | .bl c => if c = true then tb σ H1 Q else Q (.bl false) H1 | _ => False) := by
      funext x H1
      cases x with
      | bl k => exact br_if.symm
      | _ => rfl
    rw [eq] at h'
    exact h')
theorem ce_or (ha : PE X a ta) (hb : PE X (.BoolOp .Or (b :: rest) pos) tb) : PE X (.BoolOp .Or (a :: b :: rest) pos) (tOrVC ta tb) :=
  (pe_or ha.bl hb).weak fun σ H Q h => bl_eq (f := fun c H1 => if c = true then Q (.bl true) H1 else tb σ H1 Q) (by
    have h' : ta σ H fun x H1 => match x with | .bl c => br c (Q (.bl true) H1) (tb σ H1 Q) | _ => False := h
    have eq : (fun (x : V) (H1 : Hp) => match x with | .bl c => br c (Q (.bl true) H1) (tb σ H1 Q) | _ => False) = (fun (x : V) (H1 : Hp) => match x with | .bl c => if c = true then Q (.bl true) H1 else tb σ H1 Q | _ => False) := by
      funext x H1
      cases x with
      | bl k => exact br_if.symm
      | _ => rfl
    rw [eq] at h'
    exact h')
theorem PT.join (h : PT X e tA) : PT X e (tJn tA) := ⟨fun pins s σ H Q I ⟨P, h1, h2⟩ => thn (h.run pins s σ H P I h1) fun b s1 ⟨H1, I1, q1⟩ => ⟨H1, I1, h2 b H1 q1⟩⟩
theorem PS.cut {st : Stmt} {t : TS} (h : PS X st t) : PS X st (tCt t) := ⟨fun pins s σ H D I ⟨P, h1, h2⟩ => thn (h.run pins s σ H _ I h1) fun f s1 q => by
  cases f with
  | next => obtain ⟨σ', H', I', q'⟩ := q; exact ⟨σ', H', I', h2 σ' H' q'⟩
  | brk => exact q
  | cont => exact q
  | ret u => exact q⟩
end

/-! ### == of flat lists -/
/-- two lists of flat values, item by item -/
def eqVs : List V → List V → Bool
  | [], [] => true
  | x :: xs, y :: ys => eqV x y && eqVs xs ys
  | _, _ => false
theorem eqVs_len : ∀ xs ys : List V, eqVs xs ys = true → xs.length = ys.length
  | [], [], _ => rfl
  | x :: xs, y :: ys, h => by
    rw [eqVs, Bool.and_eq_true] at h
    rw [List.length_cons, List.length_cons, eqVs_len xs ys h.2]
  | [], y :: ys, h => by simp [eqVs] at h
  | x :: xs, [], h => by simp [eqVs] at h
theorem eqVs_all : ∀ xs ys : List V, xs.length = ys.length → eqVs xs ys = (List.range xs.length).all fun j => eqV (xs.getD j .non) (ys.getD j .non)
  | [], [], _ => rfl
  | x :: xs, y :: ys, h => by
    rw [eqVs, eqVs_all xs ys (by simpa using h), List.length_cons, List.range_succ_eq_map, List.all_cons, List.all_map]
    rfl
  | [], y :: ys, h => by simp at h
  | x :: xs, [], h => by simp at h
theorem eqVs_strs : ∀ xs ys : List Str, eqVs (xs.map V.str) (ys.map V.str) = decide (xs = ys)
  | [], [] => rfl
  | [], y :: ys => by simp [eqVs]
  | x :: xs, [] => by simp [eqVs]
  | x :: xs, y :: ys => by
    rw [List.map_cons, List.map_cons, eqVs, eqVs_strs xs ys]
    show (x == y && _) = _
    by_cases h : x = y <;> by_cases g : xs = ys <;> simp [h, g]
theorem eqVs_ints : ∀ xs ys : List Int, eqVs (xs.map V.int) (ys.map V.int) = decide (xs = ys)
  | [], [] => rfl
  | [], y :: ys => by simp [eqVs]
  | x :: xs, [] => by simp [eqVs]
  | x :: xs, y :: ys => by
    rw [List.map_cons, List.map_cons, eqVs, eqVs_ints xs ys]
    show (x == y && _) = _
    by_cases h : x = y <;> by_cases g : xs = ys <;> simp [h, g]
theorem eqVs_bls : ∀ xs ys : List Bool, eqVs (xs.map V.bl) (ys.map V.bl) = decide (xs = ys)
  | [], [] => rfl
  | [], y :: ys => by simp [eqVs]
  | x :: xs, [] => by simp [eqVs]
  | x :: xs, y :: ys => by
    rw [List.map_cons, List.map_cons, eqVs, eqVs_bls xs ys]
    show (x == y && _) = _
    by_cases h : x = y <;> by_cases g : xs = ys <;> simp [h, g]
/-- two lists, two tuples, of flat values -/
def SqP (K : PySem.W.Frag) (H : Hp) (a b : Addr) (xs ys : List V) : Prop := (SqL K H a xs ∧ SqL K H b ys) ∨ (SqT K H a xs ∧ SqT K H b ys)
def rEqF (K : PySem.W.Frag) : R2 := fun x y H Q => ∃ a b xs ys, x = .ref a ∧ y = .ref b ∧ SqP K H a b xs ys ∧ xs.all flatV = true ∧ ys.all flatV = true ∧ Q (.bl (eqVs xs ys)) H
def rNeF (K : PySem.W.Frag) : R2 := fun x y H Q => ∃ a b xs ys, x = .ref a ∧ y = .ref b ∧ SqP K H a b xs ys ∧ xs.all flatV = true ∧ ys.all flatV = true ∧ Q (.bl (!eqVs xs ys)) H
section
variable {X : Cx} {pins : List (Addr × Obj)} {s : Shared} {σ : St} {H : Hp}
theorem flatq_at {A : Around} {xs ys : List V} {its its2 : List Value} (r1 : Vals xs its) (r2 : Vals ys its2) (f1 : xs.all flatV = true) (f2 : ys.all flatV = true) (j : Nat) (h1 : j < its.toArray.size) (h2 : j < its2.toArray.size) :
    SeqAt.EqAt A s its.toArray[j] its2.toArray[j] (eqV (xs.getD j .non) (ys.getD j .non)) := by
  have e1 := r1.length
  have e2 := r2.length
  have h1' : j < xs.length := by rw [e1]; simpa using h1
  have h2' : j < ys.length := by rw [e2]; simpa using h2
  obtain ⟨u, hu, ru⟩ := r1.get (List.getElem?_eq_getElem h1')
  obtain ⟨v, hv, rv⟩ := r2.get (List.getElem?_eq_getElem h2')
  have g1 : its.toArray[j] = u := by
    have := List.getElem?_eq_getElem (show j < its.length by simpa using h1)
    rw [this] at hu
    simpa using hu
  have g2 : its2.toArray[j] = v := by
    have := List.getElem?_eq_getElem (show j < its2.length by simpa using h2)
    rw [this] at hv
    simpa using hv
  have q1 : xs.getD j .non = xs[j] := by simp [h1']
  have q2 : ys.getD j .non = ys[j] := by simp [h2']
  rw [g1, g2, q1, q2]
  exact eqAt_V ru rv (List.all_eq_true.mp f1 _ (List.getElem_mem h1')) (List.all_eq_true.mp f2 _ (List.getElem_mem h2'))
theorem eqVs_ne {xs ys : List V} (h : xs.length ≠ ys.length) : eqVs xs ys = false := by
  cases e : eqVs xs ys with
  | false => rfl
  | true => exact absurd (eqVs_len _ _ e) h
theorem min_all {e : Nat → Bool} {m n : Nat} (h : m = n) : ((List.range (min m n)).all e && m == n) = (List.range m).all e := by subst h; simp
theorem op_eqF (hu : X.A.units < cLine) : OpR X (compareOp .Eq) (rEqF X.K) := by
  intro pins s σ H x y v u Q I rx ry h
  obtain ⟨a, b, xs, ys, rfl, rfl, hs, f1, f2, q⟩ := h
  cases rx
  cases ry
  rcases hs with ⟨h1, h2⟩ | ⟨h1, h2⟩
  · obtain ⟨its, r1, p1, z1⟩ := I.list h1
    obtain ⟨its2, r2, p2, z2⟩ := I.list h2
    by_cases hl : xs.length = ys.length
    · have hsz : its.toArray.size = its2.toArray.size := by rw [List.size_toArray, List.size_toArray, ← r1.length, ← r2.length, hl]
      refine SeqAt.eq_listAt p1.isList p2.isList hsz hu (fun j a b => flatq_at r1 r2 f1 f2 j a b) ⟨.bl (eqVs xs ys), H, I, ?_, q⟩
      rw [eqVs_all _ _ hl, r1.length, List.size_toArray]; rfl
    · refine SeqAt.eq_list_lengthsAt p1.isList p2.isList ?_ hu ⟨.bl (eqVs xs ys), H, I, ?_, q⟩
      · simp only [List.size_toArray, ← r1.length, ← r2.length]; simpa using hl
      · rw [eqVs_ne hl]; rfl
  · obtain ⟨its, r1, p1, z1⟩ := I.tuple h1
    obtain ⟨its2, r2, p2, z2⟩ := I.tuple h2
    refine SeqAt.eq_tupleAt (show s.heap.IsTuple a its.toArray from p1) (show s.heap.IsTuple b its2.toArray from p2) hu (fun j a b => flatq_at r1 r2 f1 f2 j a b) ⟨.bl (eqVs xs ys), H, I, ?_, q⟩
    by_cases hl : xs.length = ys.length
    · have hsz : its.toArray.size = its2.toArray.size := by rw [List.size_toArray, List.size_toArray, ← r1.length, ← r2.length, hl]
      rw [min_all hsz, eqVs_all _ _ hl, r1.length, List.size_toArray]; rfl
    · rw [eqVs_ne hl]
      have : (its.toArray.size == its2.toArray.size) = false := by simp only [List.size_toArray, ← r1.length, ← r2.length]; simpa using hl
      rw [this, Bool.and_false]; rfl
theorem op_neF (hu : X.A.units < cLine) : OpR X (compareOp .NotEq) (rNeF X.K) := by
  intro pins s σ H x y v u Q I rx ry h
  obtain ⟨a, b, xs, ys, rfl, rfl, hs, f1, f2, q⟩ := h
  cases rx
  cases ry
  show wpAny (model X.prog X.w) X.A (richCompare .NotEq _ _) _ _ _
  rcases hs with ⟨h1, h2⟩ | ⟨h1, h2⟩
  · obtain ⟨its, r1, p1, z1⟩ := I.list h1
    obtain ⟨its2, r2, p2, z2⟩ := I.list h2
    by_cases hl : xs.length = ys.length
    · have hsz : its.toArray.size = its2.toArray.size := by rw [List.size_toArray, List.size_toArray, ← r1.length, ← r2.length, hl]
      refine SeqAt.RcNeAt.lists p1.isList p2.isList hsz hu (fun j a b => flatq_at r1 r2 f1 f2 j a b) _ _ _ _ ⟨.bl (!eqVs xs ys), H, I, ?_, q⟩
      rw [eqVs_all _ _ hl, r1.length, List.size_toArray]; rfl
    · refine SeqAt.RcNeAt.lists_lengths p1.isList p2.isList ?_ hu _ _ _ _ ⟨.bl (!eqVs xs ys), H, I, ?_, q⟩
      · simp only [List.size_toArray, ← r1.length, ← r2.length]; simpa using hl
      · rw [eqVs_ne hl]; rfl
  · obtain ⟨its, r1, p1, z1⟩ := I.tuple h1
    obtain ⟨its2, r2, p2, z2⟩ := I.tuple h2
    refine SeqAt.RcNeAt.tuples (show s.heap.IsTuple a its.toArray from p1) (show s.heap.IsTuple b its2.toArray from p2) hu (fun j a b => flatq_at r1 r2 f1 f2 j a b) _ _ _ _ ⟨.bl (!eqVs xs ys), H, I, ?_, q⟩
    by_cases hl : xs.length = ys.length
    · have hsz : its.toArray.size = its2.toArray.size := by rw [List.size_toArray, List.size_toArray, ← r1.length, ← r2.length, hl]
      rw [min_all hsz, eqVs_all _ _ hl, r1.length, List.size_toArray]; rfl
    · rw [eqVs_ne hl]
      have : (its.toArray.size == its2.toArray.size) = false := by simp only [List.size_toArray, ← r1.length, ← r2.length]; simpa using hl
      rw [this, Bool.and_false]; rfl
end
theorem flatV_strs (xs : List Str) : (xs.map V.str).all flatV = true := by simp [flatV]
theorem flatV_ints (xs : List Int) : (xs.map V.int).all flatV = true := by simp [flatV]
theorem flatV_bls (xs : List Bool) : (xs.map V.bl).all flatV = true := by simp [flatV]
theorem rEq_strs {K : PySem.W.Frag} {H : Hp} {a b : Addr} {xs ys : List Str} {Q : VK} (h : SqP K H a b (xs.map V.str) (ys.map V.str)) (q : Q (.bl (decide (xs = ys))) H) : rEqF K (.ref a) (.ref b) H Q :=
  ⟨a, b, _, _, rfl, rfl, h, flatV_strs xs, flatV_strs ys, by rw [eqVs_strs]; exact q⟩
theorem rNe_strs {K : PySem.W.Frag} {H : Hp} {a b : Addr} {xs ys : List Str} {Q : VK} (h : SqP K H a b (xs.map V.str) (ys.map V.str)) (q : Q (.bl (!decide (xs = ys))) H) : rNeF K (.ref a) (.ref b) H Q :=
  ⟨a, b, _, _, rfl, rfl, h, flatV_strs xs, flatV_strs ys, by rw [eqVs_strs]; exact q⟩
theorem rNe_ints {K : PySem.W.Frag} {H : Hp} {a b : Addr} {xs ys : List Int} {Q : VK} (h : SqP K H a b (xs.map V.int) (ys.map V.int)) (q : Q (.bl (!decide (xs = ys))) H) : rNeF K (.ref a) (.ref b) H Q :=
  ⟨a, b, _, _, rfl, rfl, h, flatV_ints xs, flatV_ints ys, by rw [eqVs_ints]; exact q⟩
theorem rNe_bls {K : PySem.W.Frag} {H : Hp} {a b : Addr} {xs ys : List Bool} {Q : VK} (h : SqP K H a b (xs.map V.bl) (ys.map V.bl)) (q : Q (.bl (!decide (xs = ys))) H) : rNeF K (.ref a) (.ref b) H Q :=
  ⟨a, b, _, _, rfl, rfl, h, flatV_bls xs, flatV_bls ys, by rw [eqVs_bls]; exact q⟩

/-! ### operators -/
def rAddC (K : PySem.W.Frag) : R2 := fun x y H Q => match x, y with
  | .int i, .int j => Q (.int (i + j)) H
  | .str i, .str j => i.length + j.length ≤ sizeLine ∧ Q (.str (i ++ j)) H
  | .ref l, .ref b => (∃ xs zs, H l = some (.lst xs) ∧ H b = some (.lst zs) ∧ xs.length + zs.length ≤ sizeLine ∧ ∀ p, H p = none → Q (.ref p) (upd H p (.lst (xs ++ zs)))) ∨ rCatT K (.ref l) (.ref b) H Q
  | _, _ => False
def rMulC : R2 := fun x y H Q => match x, y with
  | .int i, .int j => CMul i j ∧ Q (.int (i * j)) H
  | .ref l, .int k => rRep (.ref l) (.int k) H Q
  | _, _ => False
def rIC (C : Int → Int → Prop) (g : Int → Int → V) : R2 := fun x y H Q => match x, y with
  | .int i, .int j => C i j ∧ Q (g i j) H
  | _, _ => False
def rI0C (g : Int → Int → V) : R2 := fun x y H Q => match x, y with
  | .int i, .int j => Q (g i j) H
  | _, _ => False
def rCmpC (g : Int → Int → Bool) (h : Str → Str → Bool) : R2 := fun x y H Q => match x, y with
  | .int i, .int j => Q (.bl (g i j)) H
  | .str i, .str j => Q (.bl (h i j)) H
  | _, _ => False
def rEqC (K : PySem.W.Frag) : R2 := fun x y H Q => match x, y with
  | .int i, .int j => Q (.bl (decide (i = j))) H
  | .str i, .str j => Q (.bl (decide (i = j))) H
  | .bl i, .bl j => Q (.bl (decide (i = j))) H
  | .ref a, .ref b => rEqF K (.ref a) (.ref b) H Q ∨ rEqD K (.ref a) (.ref b) H Q
  | x, y => scal x y = true ∧ Q (.bl (decide (x = y))) H
def rNeC (K : PySem.W.Frag) : R2 := fun x y H Q => match x, y with
  | .int i, .int j => Q (.bl (!decide (i = j))) H
  | .str i, .str j => Q (.bl (!decide (i = j))) H
  | .bl i, .bl j => Q (.bl (!decide (i = j))) H
  | .ref a, .ref b => rNeF K (.ref a) (.ref b) H Q ∨ rNeD K (.ref a) (.ref b) H Q
  | x, y => scal x y = true ∧ Q (.bl (!decide (x = y))) H
def rIxC (K : PySem.W.Frag) : R2 := fun x y H Q => match x, y with
  | .ref p, .int i => ∃ xs v, (SqL K H p xs ∨ SqT K H p xs) ∧ atI xs i = some v ∧ Q v H
  | .str z, .int i => ∃ c, z.length ≤ sizeLine ∧ atI z.cps.toList i = some c ∧ Q (.str ⟨#[c]⟩) H
  | _, _ => False
def rSetC : TSet := fun o i v H Q => match o, i with
  | .ref p, .int k => ∃ xs j, H p = some (.lst xs) ∧ ixN xs.length k = some j ∧ Q (upd H p (.lst (xs.set j v)))
  | _, _ => False
def rUC (g : Int → V) : V → Hp → VK → Prop := fun x H Q => match x with
  | .int i => Q (g i) H
  | _ => False
theorem dV_int {i j : Int} : decide (V.int i = V.int j) = decide (i = j) := by by_cases h : i = j <;> simp [h]
theorem dV_str {i j : Str} : decide (V.str i = V.str j) = decide (i = j) := by by_cases h : i = j <;> simp [h]
theorem dV_bl {i j : Bool} : decide (V.bl i = V.bl j) = decide (i = j) := by by_cases h : i = j <;> simp [h]
section
variable {X : Cx}
theorem oc_add {K : PySem.W.Frag} (hK : X.K = K := by rfl) : OpR X (binaryOp .Add) (rAddC K) := hK ▸ (op_add.or (op_add_str.or (op_cat.or op_catT))).weak fun x y H Q h => by
  cases x <;> cases y <;> first | exact False.elim h | skip
  · exact .inl ⟨_, _, rfl, rfl, h⟩
  · exact .inr (.inl ⟨_, _, rfl, rfl, h⟩)
  · rcases h with ⟨xs, zs, h⟩ | h
    · exact .inr (.inr (.inl ⟨_, _, xs, zs, rfl, rfl, h⟩))
    · exact .inr (.inr (.inr h))
theorem oc_mul : OpR X (binaryOp .Mult) rMulC := (op_mul.or op_rep).weak fun x y H Q h => by
  cases x <;> cases y <;> first | exact False.elim h | skip
  · exact .inl ⟨_, _, rfl, rfl, h⟩
  · exact .inr h
theorem OpR.int {f : Value → Value → Sem Value} {C : Int → Int → Prop} {g : Int → Int → V} (h : OpR X f (rI C g)) : OpR X f (rIC C g) := h.weak fun x y H Q h => by
  cases x <;> cases y <;> first | exact False.elim h | exact ⟨_, _, rfl, rfl, h⟩
theorem OpR.int0 {f : Value → Value → Sem Value} {g : Int → Int → V} (h : OpR X f (rI0 g)) : OpR X f (rI0C g) := h.weak fun x y H Q h => by
  cases x <;> cases y <;> first | exact False.elim h | exact ⟨_, _, rfl, rfl, h⟩
theorem oc_sub : OpR X (binaryOp .Sub) (rI0C fun i j => .int (i - j)) := op_sub.int0
theorem oc_div : OpR X (binaryOp .FloorDiv) (rIC CDivW fun i j => .int (i / j)) := op_fdivW.int
theorem oc_mod : OpR X (binaryOp .Mod) (rIC (fun _ j => 0 < j) fun i j => .int (i % j)) := op_mod.int
theorem oc_pow : OpR X (binaryOp .Pow) (rIC CPowW fun i j => .int (i ^ j.toNat)) := OpR.int (opI fun _ _ _ _ _ _ _ hc q => pow_int hc.1 hc.2 q)
theorem OpR.cmp {f : Value → Value → Sem Value} {g : Int → Int → Bool} {k : Str → Str → Bool} (h : OpR X f (rI0 fun i j => .bl (g i j))) (h' : OpR X f (fun x y H Q => ∃ i j, x = .str i ∧ y = .str j ∧ Q (.bl (k i j)) H)) : OpR X f (rCmpC g k) := (h.or h').weak fun x y H Q h => by
  cases x <;> cases y <;> first | exact False.elim h | exact .inl ⟨_, _, rfl, rfl, h⟩ | exact .inr ⟨_, _, rfl, rfl, h⟩
theorem oc_lt : OpR X (compareOp .Lt) (rCmpC (fun i j => decide (i < j)) fun i j => decide (i.cps.toList < j.cps.toList)) := op_lt.cmp op_lt_str
theorem oc_le : OpR X (compareOp .LtE) (rCmpC (fun i j => decide (i ≤ j)) fun i j => !decide (j.cps.toList < i.cps.toList)) := op_le.cmp op_le_str
theorem oc_gt : OpR X (compareOp .Gt) (rCmpC (fun i j => decide (j < i)) fun i j => decide (j.cps.toList < i.cps.toList)) := op_gt.cmp op_gt_str
theorem oc_ge : OpR X (compareOp .GtE) (rCmpC (fun i j => decide (j ≤ i)) fun i j => !decide (i.cps.toList < j.cps.toList)) := op_ge.cmp op_ge_str
theorem oc_eq {K : PySem.W.Frag} (hu : X.A.units + 64 < cLine) (hK : X.K = K := by rfl) : OpR X (compareOp .Eq) (rEqC K) := hK ▸ (op_eq.or ((op_eqF (by omega)).or (op_eqD hu))).weak fun x y H Q h => by
  cases x <;> cases y <;> first | exact .inl h | exact .inr h | exact .inl ⟨rfl, by rw [dV_int]; exact h⟩ | exact .inl ⟨rfl, by rw [dV_str]; exact h⟩ | exact .inl ⟨rfl, by rw [dV_bl]; exact h⟩
theorem oc_ne {K : PySem.W.Frag} (hu : X.A.units + 64 < cLine) (hK : X.K = K := by rfl) : OpR X (compareOp .NotEq) (rNeC K) := hK ▸ (op_ne.or ((op_neF (by omega)).or (op_neD hu))).weak fun x y H Q h => by
  cases x <;> cases y <;> first | exact .inl h | exact .inr h | exact .inl ⟨rfl, by rw [dV_int]; exact h⟩ | exact .inl ⟨rfl, by rw [dV_str]; exact h⟩ | exact .inl ⟨rfl, by rw [dV_bl]; exact h⟩
theorem ic_seq {K : PySem.W.Frag} (hK : X.K = K := by rfl) : IxR X (rIxC K) := hK ▸ ix_seq.weak fun x y H Q h => by
  cases x <;> cases y <;> first | exact False.elim h | skip
  · obtain ⟨c, h⟩ := h; exact .inr (.inr ⟨_, _, c, rfl, rfl, h⟩)
  · obtain ⟨xs, v, h | h, q⟩ := h
    · exact .inl ⟨_, xs, _, v, rfl, rfl, h, q⟩
    · exact .inr (.inl ⟨_, xs, _, v, rfl, rfl, h, q⟩)
theorem set_c : PSet X rSetC := set_list.weak fun o i v H Q h => by
  cases o <;> cases i <;> first | exact False.elim h | skip
  obtain ⟨xs, j, h⟩ := h
  exact ⟨_, xs, _, j, rfl, rfl, h⟩
theorem uc_neg : UnR X (unaryOp .USub) (rUC fun i => .int (-i)) := fun pins s σ H x u Q I rx h => un_neg pins s σ H x u Q I rx (by
  cases x <;> first | exact False.elim h | exact ⟨_, rfl, h⟩)
end

/-! ### calls of built-ins -/
def rLenC (K : PySem.W.Frag) : List V → Hp → VK → Prop := fun xs H Q => match xs with
  | [.ref p] => ∃ ys, (SqL K H p ys ∨ SqT K H p ys) ∧ Q (.int ys.length) H
  | [.str z] => z.length ≤ sizeLine ∧ Q (.int z.length) H
  | _ => False
def rMaxC : List V → Hp → VK → Prop := fun xs H Q => match xs with
  | [.int i, .int j] => Q (.int (max i j)) H
  | [.int i, .int j, .int k] => Q (.int (max (max i j) k)) H
  | _ => False
def rMinC : List V → Hp → VK → Prop := fun xs H Q => match xs with
  | [.int i, .int j] => Q (.int (min i j)) H
  | _ => False
def rTupC (K : PySem.W.Frag) : List V → Hp → VK → Prop := fun xs H Q => match xs with
  | [.ref p] => ∃ ys, (SqL K H p ys ∧ ∀ l, H l = none → Q (.ref l) (upd H l (.tup ys))) ∨ (SqT K H p ys ∧ Q (.ref p) H)
  | _ => False
def rListC (K : PySem.W.Frag) : List V → Hp → VK → Prop := fun xs H Q => match xs with
  | [.ref p] => ∃ ys, (SqL K H p ys ∨ SqT K H p ys) ∧ ∀ l, H l = none → Q (.ref l) (upd H l (.lst ys))
  | _ => False
def rStrC : List V → Hp → VK → Prop := fun xs H Q => match xs with
  | [.int i] => i.natAbs.log2 < 1920 ∧ Q (.str (toString i)) H
  | _ => False
section
variable {X : Cx}
theorem cc_len {K : PySem.W.Frag} (hK : X.K = K := by rfl) : CallR X (.builtin "len") (rLenC K) := hK ▸ (call_len_seq.or call_len_str).weak fun xs H Q h => by
  unfold rLenC at h
  split at h
  · obtain ⟨ys, h⟩ := h; exact .inl ⟨_, ys, rfl, h⟩
  · exact .inr ⟨_, rfl, h⟩
  · exact h.elim
theorem max_if (i j : Int) : (if j > i then j else i) = max i j := by omega
theorem min_if (i j : Int) : (if j < i then j else i) = min i j := by omega
theorem nuMax2_int (i j : Int) : nuMax2 (.int i) (.int j) = some (.int (max i j)) := by
  show some (if decide (i < j) = true then V.int j else V.int i) = _
  by_cases h : i < j
  · rw [if_pos (decide_eq_true h), show max i j = j by omega]
  · rw [if_neg (by simpa using h), show max i j = i by omega]
theorem cc_max (hc : X.calm = true) : CallR X (.builtin "max") rMaxC := ((call_max2 hc).or (call_max3Nu hc)).weak fun xs H Q h => by
  unfold rMaxC at h
  split at h
  · rename_i i j; exact .inl ⟨i, j, rfl, by rw [max_if]; exact h⟩
  · rename_i i j k
    refine .inr ⟨_, _, _, _, rfl, ?_, h⟩
    show (nuMax2 (.int i) (.int j)).bind _ = _
    rw [nuMax2_int, Option.bind_some, nuMax2_int]
  · exact h.elim
theorem cc_min (hc : X.calm = true) : CallR X (.builtin "min") rMinC := (call_min2 hc).weak fun xs H Q h => by
  unfold rMinC at h
  split at h
  · rename_i i j; exact ⟨i, j, rfl, by rw [min_if]; exact h⟩
  · exact h.elim
theorem cc_tuple {K : PySem.W.Frag} (hK : X.K = K := by rfl) : CallR X (.type "tuple") (rTupC K) := hK ▸ call_tuple_of.weak fun xs H Q h => by
  unfold rTupC at h
  split at h
  · obtain ⟨ys, h⟩ := h; exact ⟨_, ys, rfl, h⟩
  · exact h.elim
theorem cc_list {K : PySem.W.Frag} (hK : X.K = K := by rfl) : CallR X (.type "list") (rListC K) := hK ▸ call_list_of.weak fun xs H Q h => by
  unfold rListC at h
  split at h
  · obtain ⟨ys, h⟩ := h; exact ⟨_, ys, rfl, h⟩
  · exact h.elim
theorem cc_str : CallR X (.type "str") rStrC := call_str_int.weak fun xs H Q h => by
  unfold rStrC at h
  split at h
  · exact ⟨_, rfl, h⟩
  · exact h.elim
theorem cc_repr : CallR X (.builtin "repr") rStrC := SkE.call_repr_int.weak fun xs H Q h => by
  unfold rStrC at h
  split at h
  · exact ⟨_, rfl, h⟩
  · exact h.elim
end

/-! ### slices -/
def rSlC (K : PySem.W.Frag) : V → Option Int → Option Int → Hp → VK → Prop := fun x lo hi H Q => match x with
  | .ref a => rSlL K (.ref a) lo hi H Q ∨ rSlT K (.ref a) lo hi H Q
  | .str z => rSlS (.str z) lo hi H Q
  | _ => False
def tPartC (t : TE) : TO := fun σ H Q => t σ H fun x H1 => match x with | .int i => Q (some i) H1 | _ => False
section
variable {X : Cx} {e : Expr} {te : TE}
theorem sc_U {K : PySem.W.Frag} (hK : X.K = K := by rfl) : SlR X (rSlC K) := hK ▸ fun pins s σ H x v vl vu lo hi sl Q I rx h1 h2 h3 h => (sl_list.or (sl_tup.or sl_str)) pins s σ H x v vl vu lo hi sl Q I rx h1 h2 h3 (by
  cases x <;> first | exact False.elim h | skip
  · exact .inr (.inr h)
  · exact h.elim (fun h => .inl h) fun h => .inr (.inl h))
theorem poc {e : Expr} {te : TE} (h : PE X e te) : PO X (some e) (tPartC te) := ⟨fun pins s σ H Q I q => (po_some (e := e) (te := fun σ H Q => te σ H fun x H1 => match x with | .int i => Q (.int i) H1 | _ => False) ⟨fun pins s σ H Q I q => by
  refine thn (h.run pins s σ H _ I q) fun v s1 hv => ?_
  obtain ⟨x, H1, I1, r1, q1⟩ := hv
  cases x with
  | int k => exact ⟨_, H1, I1, r1, q1⟩
  | _ => exact q1.elim⟩).run pins s σ H Q I (by
    show te σ H _
    have q' : te σ H fun x H1 => match x with | .int i => Q (some i) H1 | _ => False := q
    have eq : (fun (x : V) (H1 : Hp) => match x with | .int i => Q (some i) H1 | _ => False) = (fun (x : V) (H1 : Hp) => match x with | .int k => (fun (x : V) (H' : Hp) => ∃ k, x = .int k ∧ Q (some k) H') (.int k) H1 | _ => False) := by
      funext x H1
      cases x with
      | int k => exact propext ⟨fun q => ⟨k, rfl, q⟩, fun ⟨k', e, q⟩ => by cases e; exact q⟩
      | _ => rfl
    rw [eq] at q'
    exact q')⟩
end

/-! ### what is walked -/
section
variable {X : Cx} {tg e : Expr} {te : TE}
theorem pic_seq {K : PySem.W.Frag} (h : PE X e te) (hK : X.K = K := by rfl) : PI X tg e (fun σ H R => iList K te σ H R ∨ iTup K te σ H R) := hK ▸ (pi_list h).or (pi_tup h)
theorem pic_rev {K : PySem.W.Frag} {p pos : Pos} (hg : Gl X "reversed") (hm : X.mg "reversed" = none) (he : PE X e te) (hK : X.K = K := by rfl) (hs : starEach [e] X.env = (false, eval e X.env) :: starEach [] X.env := by rfl) : PI X tg (.Call (.Name "reversed" p) [e] [] pos) (RT.iRevA K te) := hK ▸ RT.pi_revA hg hm he hs
end
theorem walk_revT {K : PySem.W.Frag} {a : Addr} {xs : List V} : Walk (RT.ItvT K a xs.length) xs.length (fun H => SqT K H a xs) (fun i H x H' => H' = H ∧ xs[xs.length - 1 - i]? = some x) :=
  ⟨fun i _ hi q => ⟨hi, xs, xs[xs.length - 1 - i]'(by omega), q, by simp [show xs.length - 1 - i < xs.length by omega]⟩, fun _ _ => Nat.le_refl _, fun _ _ _ _ _ q y => ⟨y.1, y.2 xs q⟩⟩

/-! ### methods of lists -/
def rAppC : V → List V → Hp → VK → Prop := fun x vs H Q => match x, vs with
  | .ref l, [y] => ∃ xs, H l = some (.lst xs) ∧ xs.length < sizeLine ∧ Q .non (upd H l (.lst (xs ++ [y])))
  | _, _ => False
def rExtC : V → List V → Hp → VK → Prop := fun x vs H Q => match x, vs with
  | .ref l, [.ref b] => ∃ xs zs, H l = some (.lst xs) ∧ H b = some (.lst zs) ∧ xs.length + zs.length ≤ sizeLine ∧ Q .non (upd H l (.lst (xs ++ zs)))
  | _, _ => False
def rPopC : V → List V → Hp → VK → Prop := fun x vs H Q => match x, vs with
  | .ref l, [.int i] => ∃ (xs : List V) (k : Nat) (y : V), H l = some (.lst xs) ∧ i = (k : Int) ∧ k < 2 ^ 62 ∧ xs[k]? = some y ∧ Q y (upd H l (.lst (xs.eraseIdx k)))
  | .ref l, [] => ∃ (xs : List V) (y : V), H l = some (.lst xs) ∧ xs[xs.length - 1]? = some y ∧ Q y (upd H l (.lst xs.dropLast))
  | _, _ => False
def rRevC : V → List V → Hp → VK → Prop := fun x vs H Q => match x, vs with
  | .ref l, [] => ∃ xs, H l = some (.lst xs) ∧ Q .non (upd H l (.lst xs.reverse))
  | _, _ => False
/-- the receiver is a list that may be read -/
def tLM (K : PySem.W.Frag) (r : V → List V → Hp → VK → Prop) (to : TE) (t : TA) : TE := fun σ H Q => to σ H fun x H1 => match x with
  | .ref l => (∃ xs, SqL K H1 l xs) ∧ t σ H1 fun vs H2 => r (.ref l) vs H2 Q
  | _ => False
section
variable {X : Cx}
theorem mc_append : MtR X "list.append" rAppC := MtR.weak (r := rAppend) mt_append fun x vs H Q h => by
  unfold rAppC at h
  split at h
  · obtain ⟨xs, h⟩ := h; exact ⟨_, xs, _, rfl, rfl, h⟩
  · exact h.elim
theorem mc_extend : MtR X "list.extend" rExtC := MtR.weak (r := rExtend) mt_extend fun x vs H Q h => by
  unfold rExtC at h
  split at h
  · obtain ⟨xs, zs, h⟩ := h; exact ⟨_, _, xs, zs, rfl, rfl, h⟩
  · exact h.elim
theorem seqIndex_nat {k n : Nat} (h : k < n) : seqIndex? (k : Int) n = some k := by
  have := (ixN_seq (n := n) (i := (k : Int)) (j := k) (by unfold ixN; rw [if_pos (by omega), if_pos (by omega)]; simp)).1
  exact this
theorem mc_pop : MtR X "list.pop" rPopC := MtR.weak (MtR.or (r := rPopAt) (r' := rPop) mt_popAt mt_pop) fun x vs H Q h => by
  unfold rPopC at h
  split at h
  · obtain ⟨xs, k, y, h1, rfl, h2, h3, q⟩ := h
    have hk := (List.getElem?_eq_some_iff.mp h3).1
    exact .inl ⟨_, xs, _, k, y, rfl, rfl, h1, by omega, by omega, seqIndex_nat hk, h3, q⟩
  · obtain ⟨xs, y, h⟩ := h; exact .inr ⟨_, xs, y, rfl, rfl, h⟩
  · exact h.elim
theorem mc_reverse : MtR X "list.reverse" rRevC := MtR.weak (r := rReverse) mt_reverse fun x vs H Q h => by
  unfold rRevC at h
  split at h
  · obtain ⟨xs, h⟩ := h; exact ⟨_, xs, rfl, rfl, h⟩
  · exact h.elim
theorem tLM_of {K : PySem.W.Frag} {r : V → List V → Hp → VK → Prop} {to : TE} {t : TA} {σ : St} {H : Hp} {Q : VK} (mono : ∀ P P' : VK, (∀ v H', P v H' → P' v H') → to σ H P → to σ H P') (h : tLM K r to t σ H Q) : tBM K "list" r to t σ H Q :=
  mono _ _ (fun x H' q => by
    cases x with
    | ref l => exact ⟨.inl ⟨rfl, q.1⟩, q.2⟩
    | _ => exact q.elim) h
end

/-! ### heaps -/
/-- all that was tracked, but what stands at a, is as it was -/
def SameB (a : Addr) (H H' : Hp) : Prop := ∀ b o, b ≠ a → H b = some o → H' b = some o
theorem SameB.refl {a : Addr} {H : Hp} : SameB a H H := fun _ _ _ h => h
theorem SameB.trans {a : Addr} {H H1 H2 : Hp} (x : SameB a H H1) (y : SameB a H1 H2) : SameB a H H2 := fun b o n h => y b o n (x b o n h)
theorem SameB.of {a : Addr} {H H' : Hp} (x : Same H H') : SameB a H H' := fun b o _ h => x b o h
theorem SameB.at {a : Addr} {H : Hp} {o : HO} : SameB a H (upd H a o) := fun b u n h => by rw [upd_ne n]; exact h
theorem upd_new {H : Hp} {a b : Addr} {o u : HO} (h : H b = some u) (hn : H a = none) : upd H a o b = some u := by rw [upd_ne (ne_of_none h hn)]; exact h
theorem upd_oth {H : Hp} {a b : Addr} {o u : HO} (hn : b ≠ a) (h : H b = some u) : upd H a o b = some u := by rw [upd_ne hn]; exact h
theorem Same.new {H : Hp} {a : Addr} {o : HO} (hn : H a = none) : Same H (upd H a o) := fun _ _ h => upd_new h hn
theorem SameB.new {a p : Addr} {H : Hp} {o : HO} (hn : H p = none) : SameB a H (upd H p o) := SameB.of (Same.new hn)
/-- a write to what was not there at the start -/
theorem SameB.wr {a p : Addr} {H H1 : Hp} {o : HO} (x : SameB a H H1) (hn : H p = none) : SameB a H (upd H1 p o) := fun b u n h => by
  rw [upd_ne (ne_of_none h hn)]; exact x b u n h
theorem SameB.ws {a : Addr} {H H1 : Hp} {o : HO} (x : SameB a H H1) : SameB a H (upd H1 a o) := fun b u n h => by
  rw [upd_ne n]; exact x b u n h
theorem Same.wr {p : Addr} {H H1 : Hp} {o : HO} (x : Same H H1) (hn : H p = none) : Same H (upd H1 p o) := fun b u h => by
  rw [upd_ne (ne_of_none h hn)]; exact x b u h
theorem SameB.free {a : Addr} {H H' : Hp} (e : SameB a H H') {l : Addr} (n : l ≠ a) (h : H' l = none) : H l = none := by
  cases q : H l with
  | none => rfl
  | some o => rw [e l o n q] at h; cases h
theorem SameB.seq {K : PySem.W.Frag} {s a : Addr} {H H' : Hp} {xs : List V} (e : SameB s H H') (n : a ≠ s) (h : SqL K H a xs) : SqL K H' a xs := by
  rcases h with (h | ⟨o, h⟩) | h
  · exact .inl (.inl (e _ _ n h))
  · exact .inl (.inr ⟨o, e _ _ n h⟩)
  · exact .inr h
theorem SameB.seqT {K : PySem.W.Frag} {s a : Addr} {H H' : Hp} {xs : List V} (e : SameB s H H') (n : a ≠ s) (h : SqT K H a xs) : SqT K H' a xs := by
  rcases h with (h | ⟨o, h⟩) | h
  · exact .inl (.inl (e _ _ n h))
  · exact .inl (.inr ⟨o, e _ _ n h⟩)
  · exact .inr h
theorem Same.seqT {K : PySem.W.Frag} {H H' : Hp} {a : Addr} {xs : List V} (e : Same H H') (h : SqT K H a xs) : SqT K H' a xs := by
  rcases h with (h | ⟨o, h⟩) | h
  · exact .inl (.inl (e _ _ h))
  · exact .inl (.inr ⟨o, e _ _ h⟩)
  · exact .inr h

theorem upd_none {H : Hp} {a p : Addr} {o : HO} (h : upd H a o p = none) : H p = none := by
  by_cases e : p = a
  · subst e; rw [upd_same] at h; cases h
  · rw [upd_ne e] at h; exact h
theorem upd_none_ne {H : Hp} {a p : Addr} {o : HO} (h : upd H a o p = none) : p ≠ a := by
  intro e; subst e; rw [upd_same] at h; cases h
theorem SameB.get {s b : Addr} {H H' : Hp} {o : HO} (e : SameB s H H') (n : b ≠ s) (h : H b = some o) : H' b = some o := e b o n h
theorem Same.get {b : Addr} {H H' : Hp} {o : HO} (e : Same H H') (h : H b = some o) : H' b = some o := e b o h
/-- what was not there, is not the source -/
theorem SameB.free' {a : Addr} {H H' : Hp} {xs : List V} (e : SameB a H H') (ha : H' a = some (.lst xs)) {l : Addr} (h : H' l = none) : H l = none := e.free (ne_of_none ha h).symm h

theorem Same.transB {s : Addr} {H H1 H2 : Hp} (x : Same H H1) (y : SameB s H1 H2) (hs : H s = none) : Same H H2 := fun b o h => y b o (ne_of_none h hs) (x b o h)

/-! ### slices of any list -/
def cutL {α : Type} (xs : List α) (lo hi : Option Int) : List α := (xs.drop (HT.sIx xs.length 0 lo)).take (HT.sIx xs.length xs.length hi - HT.sIx xs.length 0 lo)
theorem cutV_map {α : Type} (f : α → V) (xs : List α) (lo hi : Option Int) : cutV (xs.map f) lo hi = (cutL xs lo hi).map f := by
  unfold cutV cutL
  rw [List.length_map, List.map_take, List.map_drop]
theorem cutL_length {α : Type} (xs : List α) (lo hi : Option Int) : (cutL xs lo hi).length ≤ xs.length := by
  unfold cutL
  rw [List.length_take, List.length_drop]
  omega
theorem cutL_mem {α : Type} {xs : List α} {lo hi : Option Int} {x : α} (h : x ∈ cutL xs lo hi) : x ∈ xs := List.mem_of_mem_drop (List.mem_of_mem_take h)

theorem cut_two {α : Type} (xs : List α) {a b : Int} (ha : 0 ≤ a) (hb : 0 ≤ b) : (cutL xs none (some a)).length + (cutL xs (some (a + b)) none).length ≤ xs.length := by
  obtain ⟨i, rfl⟩ := Int.eq_ofNat_of_zero_le ha
  obtain ⟨j, rfl⟩ := Int.eq_ofNat_of_zero_le hb
  unfold cutL
  rw [← Int.natCast_add, HT.sIx_none, HT.sIx_none, HT.sIx_nat, HT.sIx_nat]
  simp only [List.length_take, List.length_drop]
  omega

/-! ### lists of texts, of ints -/
theorem dpAll_str {K : PySem.W.Frag} {H : Hp} : ∀ xs : List Str, DpAll K H (xs.map V.str) (xs.map PyData.str)
  | [] => .nil
  | x :: xs => .cons (.str x) (dpAll_str xs)
theorem dpAll_int {K : PySem.W.Frag} {H : Hp} : ∀ xs : List Int, DpAll K H (xs.map V.int) (xs.map PyData.int)
  | [] => .nil
  | x :: xs => .cons (.int x) (dpAll_int xs)
theorem dpAll_bl {K : PySem.W.Frag} {H : Hp} : ∀ xs : List Bool, DpAll K H (xs.map V.bl) (xs.map PyData.bool)
  | [] => .nil
  | x :: xs => .cons (.bl x) (dpAll_bl xs)
theorem str_len_app (a b : Str) : (a ++ b).length = a.length + b.length := by
  show (a.cps ++ b.cps).size = a.cps.size + b.cps.size
  exact Array.size_append
theorem atI_mem {α : Type} {xs : List α} {d : Int} (h0 : 0 ≤ d) (h1 : d < xs.length) : ∃ v, v ∈ xs ∧ atI xs d = some v := by
  obtain ⟨j, rfl⟩ := Int.eq_ofNat_of_zero_le h0
  have hj : j < xs.length := by omega
  exact ⟨xs[j], List.getElem_mem hj, atI_nat (List.getElem?_eq_getElem hj)⟩
theorem atI_strs {ls : List Str} {d : Int} (h0 : 0 ≤ d) (h1 : d < ls.length) : ∃ z, z ∈ ls ∧ atI (ls.map V.str) d = some (.str z) := by
  obtain ⟨j, rfl⟩ := Int.eq_ofNat_of_zero_le h0
  have hj : j < ls.length := by omega
  exact ⟨ls[j], List.getElem_mem hj, atI_nat (by rw [List.getElem?_map, List.getElem?_eq_getElem hj]; rfl)⟩
theorem atI_ints {ls : List Int} {d : Int} (h0 : 0 ≤ d) (h1 : d < ls.length) : ∃ z, z ∈ ls ∧ atI (ls.map V.int) d = some (.int z) := by
  obtain ⟨j, rfl⟩ := Int.eq_ofNat_of_zero_le h0
  have hj : j < ls.length := by omega
  exact ⟨ls[j], List.getElem_mem hj, atI_nat (by rw [List.getElem?_map, List.getElem?_eq_getElem hj]; rfl)⟩
theorem rep_flat (k : Nat) (x : V) : (List.replicate k [x]).flatten = List.replicate k x := by
  induction k with
  | zero => rfl
  | succ k ih => rw [List.replicate_succ, List.flatten_cons, ih, List.replicate_succ]; rfl
theorem atI_map {α : Type} {xs : List α} {f : α → V} {i : Int} {j : Nat} {x : α} (e : i = (j : Int)) (h : xs[j]? = some x) : atI (xs.map f) i = some (f x) := by
  subst e
  exact atI_nat (by rw [List.getElem?_map, h]; rfl)
theorem atI_of {xs : List V} {i : Int} {j : Nat} {x : V} (e : i = (j : Int)) (h : xs[j]? = some x) : atI xs i = some x := by
  subst e
  exact atI_nat h
theorem ixN_of {n : Nat} {i : Int} {j : Nat} (e : i = (j : Int)) (h : j < n) : ixN n i = some j := by
  subst e
  unfold ixN
  rw [if_pos (by omega), if_pos (by omega)]
  rfl
theorem str_len_num {v : Int} (h0 : 0 ≤ v) {k : Nat} (hk : 0 < k) (h : v < 10 ^ k) : (Str.ofString (toString v)).length ≤ k := toString_length_le h0 hk h

/-! ### pairs of lists -/
theorem prd_app {α β : Type} {F : α → β → Prop} : ∀ {l₁ m₁ : List α} {l₂ m₂ : List β}, Paired F l₁ l₂ → Paired F m₁ m₂ → Paired F (l₁ ++ m₁) (l₂ ++ m₂)
  | _, _, _, _, .nil, h => h
  | _, _, _, _, .cons r t, h => .cons r (prd_app t h)
theorem prd_get {α β : Type} {F : α → β → Prop} : ∀ {l₁ : List α} {l₂ : List β} {i : Nat} {a : α}, Paired F l₁ l₂ → l₁[i]? = some a → ∃ b, l₂[i]? = some b ∧ F a b
  | _, _, _, _, .nil, e => by simp at e
  | _, _, 0, _, .cons r _, e => by simp at e; subst e; exact ⟨_, rfl, r⟩
  | _, _, i + 1, a, .cons _ t, e => by
    obtain ⟨b, h1, h2⟩ := prd_get (i := i) (a := a) t (by simpa using e)
    exact ⟨b, by simpa using h1, h2⟩
theorem prd_map {α β γ : Type} {F : α → β → Prop} {G : α → γ → Prop} (g : β → γ) (h : ∀ a b, F a b → G a (g b)) : ∀ {l₁ : List α} {l₂ : List β}, Paired F l₁ l₂ → Paired G l₁ (l₂.map g)
  | _, _, .nil => .nil
  | _, _, .cons r t => .cons (h _ _ r) (prd_map g h t)
theorem prd_mono {α β : Type} {F G : α → β → Prop} (h : ∀ a b, F a b → G a b) : ∀ {l₁ : List α} {l₂ : List β}, Paired F l₁ l₂ → Paired G l₁ l₂
  | _, _, .nil => .nil
  | _, _, .cons r t => .cons (h _ _ r) (prd_mono h t)
theorem prd_mem {α β : Type} {F : α → β → Prop} : ∀ {l₁ : List α} {l₂ : List β} {a : α}, Paired F l₁ l₂ → a ∈ l₁ → ∃ b, b ∈ l₂ ∧ F a b
  | _, _, _, .nil, e => by cases e
  | _, _, a, .cons (a := a') (b := b') r t, e => by
    rcases List.mem_cons.mp e with h | h
    · subst h; exact ⟨b', List.mem_cons_self, r⟩
    · obtain ⟨b, h1, h2⟩ := prd_mem t h
      exact ⟨b, List.mem_cons_of_mem _ h1, h2⟩
/-- a list of lists of texts: their addresses, and what stands there -/
def LLs (H : Hp) (as : List Addr) (cs : List (List Str)) : Prop := Paired (fun a c => H a = some (.lst (c.map V.str))) as cs
theorem LLs.same {H H' : Hp} {as : List Addr} {cs : List (List Str)} (h : LLs H as cs) (e : Same H H') : LLs H' as cs := prd_mono (fun a _ q => e a _ q) h

/-! ### the law's source of numbers -/
/-- three ints: what is left of the digits, the mixed one, how many were drawn (at most k) -/
def SrcL (k : Nat) (xs : List V) : Prop := ∃ a b c : Int, xs = [.int a, .int b, .int c] ∧ 0 ≤ a ∧ 0 ≤ b ∧ b < 2 ^ 200 ∧ 0 ≤ c ∧ c ≤ (k : Int)
theorem SrcL.mono {k m : Nat} {xs : List V} (h : SrcL k xs) (hk : k ≤ m) : SrcL m xs := by
  obtain ⟨a, b, c, e, h1, h2, h3, h4, h5⟩ := h
  exact ⟨a, b, c, e, h1, h2, h3, h4, by omega⟩
/-- a draw: bounds, and the source with one more drawn -/
def spDraw : Sp := fun vs H Q _ => ∃ (s : Addr) (n : Int) (k : Nat) (xs : List V), vs = [.ref s, .int n] ∧ H s = some (.lst xs) ∧ SrcL k xs ∧ k < 2 ^ 60 ∧ 0 < n ∧ n < 2 ^ 200 ∧
  ∀ (d : Int) (ys : List V), 0 ≤ d → d < n → SrcL (k + 1) ys → Q (.int d) (upd H s (.lst ys))
/-- a new source -/
def spSource (K : PySem.W.Frag) : Sp := fun vs H Q _ => ∃ (a : Addr) (i : Int) (ns : List Int), vs = [.ref a, .int i] ∧ SqL K H a (ns.map V.int) ∧ ns.length ≤ 63 ∧ 0 ≤ i ∧ i < 2 ^ 60 ∧
  ∀ (p : Addr) (xs : List V), H p = none → SrcL 0 xs → Q (.ref p) (upd H p (.lst xs))
/-- the law: the script is a list of at most 63 ints, the answer is True -/
def spLaw (K : PySem.W.Frag) : Sp := fun vs H Q _ => ∃ (a : Addr) (ns : List Int), vs = [.ref a] ∧ SqL K H a (ns.map V.int) ∧ ns.length ≤ 63 ∧ ∀ H', Q (.bl true) H'
end L2

/-! super().m(..) within a method of the text: judgements at a known activation. -/
namespace L2
open PySem PySem.Spec PyProof.Rows

structure PEa (X : Cx) (c : Code) (e : Expr) (t : TE) : Prop where
  run : ∀ (pins : List (Addr × Obj)) (s : Shared) (σ : St) (H : Hp) (Q : VK), Inv X pins σ H s → t σ H Q → _root_.PySem.wpAt (model X.prog X.w) X.A c (eval e X.env) (EP X pins σ Q) X.xe s
structure PSa (X : Cx) (c : Code) (st : Stmt) (t : TS) : Prop where
  run : ∀ (pins : List (Addr × Obj)) (s : Shared) (σ : St) (H : Hp) (D : Ends), Inv X pins σ H s → t D σ H → _root_.PySem.wpAt (model X.prog X.w) X.A c (exec st X.env) (SP X pins D) X.xe s
structure PSsa (X : Cx) (c : Code) (st : List Stmt) (t : TS) : Prop where
  run : ∀ (pins : List (Addr × Obj)) (s : Shared) (σ : St) (H : Hp) (D : Ends), Inv X pins σ H s → t D σ H → _root_.PySem.wpAt (model X.prog X.w) X.A c (execs st X.env) (SP X pins D) X.xe s
section
variable {X : Cx} {c : Code} {e a b : Expr} {te ta tb : TE} {pos : Pos}
theorem PE.ata (h : PE X e te) : PEa X c e te := ⟨fun pins s σ H Q I q => PySem.wpAt_of_wpAny (h.run pins s σ H Q I q)⟩
theorem psa_ret (h : PEa X c e te) : PSa X c (.Return (some e) pos) (tRet te) := ⟨fun pins s σ H D I q =>
  ks_wpAt_Return_some (PySem.wpAt_mono (h.run pins s σ H _ I q) (fun v s1 ⟨x, H1, I1, r1, q1⟩ => ⟨x, σ, H1, I1, r1, q1⟩) fun _ _ z => z)⟩
theorem psa_expr (h : PEa X c e te) (hs : swapsWith e none pos.line X.env = pure false := by rfl) : PSa X c (.Expr e pos) (tDrop te) := ⟨fun pins s σ H D I q =>
  ks_wpAt_Expr_any (PySem.wpAt_mono (h.run pins s σ H _ I q) (fun v s1 ⟨x, H1, I1, r1, q1⟩ => ⟨σ, H1, I1, q1⟩) fun _ _ z => z) I.quiet hs⟩
theorem pea_op {op : Operator} {r : R2} (ho : OpR X (binaryOp op) r) (ha : PEa X c a ta) (hb : PE X b tb) : PEa X c (.BinOp a op b pos) (tOp r ta tb) := ⟨fun pins s σ H Q I q =>
  ks_wpAt_BinOp (PySem.wpAt_mono (ha.run pins s σ H _ I q) (fun v s1 ⟨x, H1, I1, r1, q1⟩ => thn (hb.run pins s1 σ H1 _ I1 q1) fun u s2 ⟨y, H2, I2, r2, q2⟩ => ho pins s2 σ H2 x y v u Q I2 r1 r2 q2) fun _ _ z => z)⟩
theorem pssa_cons {st : Stmt} {rest : List Stmt} {t u : TS} (h1 : PSa X c st t) (h2 : PSs X rest u) : PSsa X c (st :: rest) (tSeq t u) := ⟨fun pins s σ H D I q => by
  refine ks_wpAt_execs_cons (PySem.wpAt_mono (h1.run pins s σ H { D with nx := u D } I q) (fun f s1 q1 => ?_) fun _ _ z => z)
  cases f with
  | next =>
    obtain ⟨σ', H', I', q1⟩ := q1
    exact PySem.wpAt_of_wpAny (h2.run pins s1 σ' H' D I' q1)
  | ret v => exact q1
  | brk => exact q1
  | cont => exact q1⟩
theorem pssa_one {st : Stmt} {t : TS} (h1 : PSa X c st t) : PSsa X c [st] (tSeq t tNext) := pssa_cons h1 pss_nil
end

/-- a def's first parameter -/
def argOf (st : Stmt) : Arg := ((defArgs st).posonlyargs ++ (defArgs st).args).headD { arg := "", annotation := none, pos := ⟨0, 0, 0, 0⟩ }
/-- how the method m behind D, for an instance of C, is found -/
structure SupIn (K : PySem.W.Frag) (C D : Addr) (m : Str) (f2 : Addr) : Prop where
  sub : PySem.W.mroIn K C (.ref D) = some true
  sup : PySem.W.ks_superIn K C D m = some (some (.ref f2))
/-- what the text says of super in a method at f of the class D -/
structure SupTx (P : Program) (K : PySem.W.Frag) (mg : Str → Option Value) (f cda D : Addr) (file : Str) : Prop where
  code : ∃ (ccl : Value) (cdd : Option Addr) (vs : Array Value) (ccs : Array (Option Value)) (tf : Tok), K.lookup cda = some ⟨ccl, cdd, .fields vs, ccs⟩ ∧ vs[2]? = some (.str file tf)
  file : ((P.main.file : Str) == file) = true
  top : (P.main.scope.names.lookup ("super" : Str)).isSome = false
  mg : mg "super" = none
  cls : ∃ cd, PySem.W.clsIn K D = some cd
  any : PySem.W.nsIn K cStatics "thirdparty.any" = some none
def tSup (K : PySem.W.Frag) (D : Addr) (m : Str) (f2 : Addr) (j : Nat) (sp : Sp) (dvs : List V) (E : XK) (t : TA) : TE := fun σ H Q => ∃ x C dx fs, σ[0]? = some (some (.ref x)) ∧ σ[j]? = some (some (.ref D)) ∧ H x = some (.ins C dx fs) ∧ SupIn K C D m f2 ∧
  t σ H fun vs H1 => sp (.ref x :: vs ++ dvs) H1 Q E
section
variable {X : Cx} {CX : CXT} {k : Nat} {f C : Addr} {fd : FuncData} {ps : List Str} {sp : Sp} {dvs : List V} {ds : List Value} {E : XK} {x m : Str} {p pos apos : Pos} {e o : Expr} {es : List Expr} {ta : TE} {t : TA}
theorem run_fnC {pins : List (Addr × Obj)} {σ : St} {H : Hp} {s : Shared} {Q : VK} {us : List Value} {vs : List V} (F : FnOk X.prog X.w X.K X.mg X.base CX k f fd ps sp) (hr : Room k X.A) (hb : Binds X.K fd ps ds) (hd : Vals dvs ds) (hx : Passes CX X E)
    (I : Inv X pins σ H s) (r : Vals vs us) (h : sp (vs ++ dvs) H Q E) : codeAny (model X.prog X.w) X.A (.call (.ref f) ⟨us, []⟩) (wants (EP X pins σ Q) X.xe) s := by
  have r2 : Vals (vs ++ dvs) (us ++ ds) := r.append hd
  have hl : (us ++ ds).length = ps.length := by rw [← r2.length]; exact F.len _ _ _ _ h
  refine codeAny_mono (F.run X.A X.stack s H ⟨us, []⟩ (us ++ ds) (vs ++ dvs) Q E hr I.env0 (hb s us I.kIn hl) r2 h) fun r s' hq => ?_
  cases r with
  | error e => exact hx pins σ H s e s' I hq
  | ok fl =>
    cases fl with
    | ret u => exact I.after hq
    | next => exact False.elim hq
    | brk => exact False.elim hq
    | cont => exact False.elim hq
theorem ldn {A : Around} {E : Value → Shared → Prop} {pins : List (Addr × Obj)} {s : Shared} {σ : St} {H : Hp} {i : Nat} {y : Str} {v : V} {Q : Value → Shared → Prop} (I : Inv X pins σ H s) (hN : X.N[i]? = some y) (hv : Vis X.env.scope y) (e : σ[i]? = some (some v)) (hcd : (y == ("__classdict__" : Str)) = false)
    (h : ∀ u, RelV v u → Q u s) : wpAny (model X.prog X.w) A (loadName X.env y) Q E s := by
  obtain ⟨m, hn, hl⟩ := I.loc
  obtain ⟨u, r, l⟩ := hl i y v hN e hv
  rcases l with ⟨hk, hm⟩ | ⟨hk, c, hc, hcell⟩
  · exact wpAny_loadName_local I.ok.kind hk hn hm (h u r)
  · rcases hk with hk | hk
    · exact wpAny_loadName_cell I.ok.kind hk hc hcell (h u r)
    · exact wpAny_loadName_free I.ok.kind hk hc hcell (h u r) hcd
/-- the object of super, made -/
theorem sup_base {pins : List (Addr × Obj)} {s : Shared} {σ : St} {H : Hp} {body : List Stmt} {p0 p1 : Pos} {attr : Str} {whole : Sem Value} {g cda D x C dx : Addr} {gd : FuncData} {ar : Arg} {file : Str} {fs : List (Str × V)} {j : Nat} {oc : Value} {od : Option Addr} {osl : Array (Option Value)} {Q : Value → Shared → Prop} {E : Value → Shared → Prop}
    (I : Inv X pins σ H s) (T : SupTx X.prog X.K X.mg g cda D file) (hks : X.env.scope.names.lookup ("super" : Str) = some .globalImplicit) (hkc : X.env.scope.names.lookup ("__class__" : Str) = some .free) (hat : (attr == ("__class__" : Str)) = false)
    (hfu : X.env.func = some g) (hf : X.K.lookup g = some ⟨oc, od, .func gd, osl⟩) (hp : (gd.params.posonlyargs ++ gd.params.args).head? = some ar) (hco : X.env.code = .ref cda)
    (h0 : X.N[0]? = some ar.arg) (v0 : Vis X.env.scope ar.arg) (c0 : (ar.arg == ("__classdict__" : Str)) = false) (hj : X.N[j]? = some "__class__") (e0 : σ[0]? = some (some (.ref x))) (ej : σ[j]? = some (some (.ref D))) (ex : H x = some (.ins C dx fs)) (hs : PySem.W.mroIn X.K C (.ref D) = some true)
    (h : ∀ h', h'.get? s.heap.objs.size = some (PySem.W.ks_superObj D x C) → (∀ y o, s.heap.get? y = some o → h'.get? y = some o) → Q (.ref s.heap.objs.size) { s with heap := h' }) :
    _root_.PySem.wpAt (model X.prog X.w) X.A (.func body X.env) (attributeBase (.Call (.Name "super" p0) [] [] p1) attr X.env whole) Q E s := by
  obtain ⟨⟨ccl, cdd, vs, ccs, tf, hcode, hvs⟩, hfile, htop, hmg, ⟨cdD, hD⟩, hany⟩ := T
  have KX := I.kIn
  obtain ⟨oD, hD1, hD2⟩ : ∃ oD, s.heap.get? D = some oD ∧ oD.data = .cls cdD := by
    unfold PySem.W.clsIn at hD
    split at hD
    · rename_i c d cd' sl ho
      cases hD
      exact ⟨_, KX _ _ ho, rfl⟩
    · cases hD
  obtain ⟨mA, O, _⟩ := ins_get I.hok ex
  obtain ⟨odd, J, _⟩ := O.look
  refine ks_wpAt_super_base (env := X.env) hks hkc hat hfu (KX _ _ hf) rfl hp hco (KX _ _ hcode) rfl hvs hfile htop ?_
  obtain ⟨mb, hb1, hb2⟩ := I.mod.blt
  refine PySem.W.ks_loadName_global I.ok.kind hks (Calls.loadGlobal_builtin (by rw [I.ok.glob]; exact I.mod.glob.keeps I.bk) hmg (by rw [I.ok.blt]; exact hb1.keeps I.bk) ((hb2 _ (by decide +kernel)).trans (by decide +kernel)) ⟨rfl, ?_⟩)
  refine ldn I hj (.inr (.inr hkc)) ej (by decide) fun u ru => ?_
  obtain rfl : u = .ref D := ru
  refine ldn I h0 v0 e0 c0 fun u ru => ?_
  obtain rfl : u = .ref x := ru
  obtain ⟨hh, g', d', t', os'⟩ := s
  refine ks_wpAny_isType_cls hD1 hD2 ⟨rfl, ?_⟩
  refine ks_wpAny_call_super hD1 hD2 J.at_ J.cls (fun c e => ?_) (PySem.W.looks_mroIn KX hs) (fun h' e k => h h' e k)
  have := J.no
  unfold PySem.W.notCls at this
  rw [e] at this
  exact Bool.noConfusion this
/-- .. and its method, bound: what stands then -/
theorem sup_meth {pins : List (Addr × Obj)} {s : Shared} {σ : St} {H : Hp} {pl : Sem Bool} {f2 so D x C dx g cda : Addr} {file : Str} {fs : List (Str × V)} {A : Around} {Q : Value × List Value → Shared → Prop} {E : Value → Shared → Prop}
    (I : Inv X pins σ H s) (T : SupTx X.prog X.K X.mg g cda D file) (ex : H x = some (.ins C dx fs)) (hs : SupIn X.K C D m f2) (hf : PySem.W.isFn X.K (.ref f2) = true) (hn : (m == ("__class__" : Str)) = false) (hso : s.heap.get? so = some (PySem.W.ks_superObj D x C))
    (h : Q (.ref s.heap.objs.size, []) { s with heap := s.heap.push { cls := .type "method", data := .fields #[.ref f2, .ref x] }, toks := s.toks + 1 }) : wpAny (model X.prog X.w) A (getMethod (.ref so) m pl) Q E s := by
  have KX := I.kIn
  obtain ⟨mA, O, _⟩ := ins_get I.hok ex
  obtain ⟨odd, J, _⟩ := O.look
  have hm := hs.sup
  cases hc : PySem.W.clsIn X.K C with
  | none => unfold PySem.W.ks_superIn at hm; rw [hc] at hm; cases hm
  | some cd =>
    unfold PySem.W.ks_superIn at hm
    rw [hc] at hm
    obtain ⟨of, hof, hofc⟩ : ∃ of, s.heap.get? f2 = some of ∧ of.cls = .type "function" := by
      have ht' : (X.K.lookup f2).map (·.cls) = some (.type "function") := beq_iff_eq.mp hf
      cases z : X.K.lookup f2 with
      | none => rw [z] at ht'; cases ht'
      | some of => rw [z] at ht'; exact ⟨of, KX _ _ z, Option.some.inj ht'⟩
    obtain ⟨hh, g', d', t', os'⟩ := s
    refine ks_wpAny_getMethod_super hso (PySem.W.looks_opaque KX T.any) (l₀ := cd.mro) ?_ rfl KX hm hof hofc (PySem.W.ks_ne KX J hc) hn h
    exact fun A Q E s k q => wpAny_bind ((PySem.W.looks_clsIn KX hc) A _ E s k (wpAny_pure q))
/-- super().m() -/
theorem pea_super0 {pl : Sem Bool} {body : List Stmt} {p0 p1 : Pos} {g cda D f2 : Addr} {gd : FuncData} {ar : Arg} {file : Str} {j : Nat} {oc : Value} {od : Option Addr} {osl : Array (Option Value)}
    (T : SupTx X.prog X.K X.mg g cda D file) (hks : X.env.scope.names.lookup ("super" : Str) = some .globalImplicit) (hkc : X.env.scope.names.lookup ("__class__" : Str) = some .free) (hat : (m == ("__class__" : Str)) = false)
    (hfu : X.env.func = some g) (hg : X.K.lookup g = some ⟨oc, od, .func gd, osl⟩) (hp : (gd.params.posonlyargs ++ gd.params.args).head? = some ar) (hco : X.env.code = .ref cda)
    (h0 : X.N[0]? = some ar.arg) (v0 : Vis X.env.scope ar.arg) (c0 : (ar.arg == ("__classdict__" : Str)) = false) (hj : X.N[j]? = some "__class__")
    (F : FnOk X.prog X.w X.K X.mg X.base CX k f2 fd ps sp) (hr : Room k X.A) (hb : Binds X.K fd ps ds) (hd : Vals dvs ds) (hx : Passes CX X E) (hf : PySem.W.isFn X.K (.ref f2) = true) (hfn : PySem.W.fnIn X.K f2 = true)
    (he : eval (.Call (.Attribute (.Call (.Name "super" p0) [] [] p1) m apos) [] [] pos) X.env = (do
      let ov ← attributeBase (.Call (.Name "super" p0) [] [] p1) m X.env (eval (.Call (.Name "super" p0) [] [] p1) X.env)
      standAt apos.atName
      let (f, first) ← holding [ov] (getMethod ov m pl)
      callWith pos f first (backTo pos (starEach [] X.env)) []) := by rfl) :
    PEa X (.func body X.env) (.Call (.Attribute (.Call (.Name "super" p0) [] [] p1) m apos) [] [] pos) (tSup X.K D m f2 j sp dvs E tNil) := by
  refine ⟨fun pins s σ H Q I q => ?_⟩
  obtain ⟨x, C, dx, fs, e0, ej, ex, hs, q⟩ := q
  refine ks_wpAt_MethodCall (pl := pl) (sup_base I T hks hkc hat hfu hg hp hco h0 v0 c0 hj e0 ej ex hs.sub fun h' hso kp => ?_) he
  have I1 : Inv X pins σ H { s with heap := h' } := I.kept (t' := s.toks) kp
  refine sup_meth I1 T ex hs hf hat hso ?_
  have I2 : Inv X pins σ H { s with heap := h'.push { cls := .type "method", data := .fields #[.ref f2, .ref x] }, toks := s.toks + 1 } := I1.kept (t' := s.toks + 1) fun b o e => Heap.get?_push_of_some _ e
  have hmo : (h'.push { cls := .type "method", data := .fields #[.ref f2, .ref x] }).get? h'.objs.size = some (PySem.W.methodObj (.ref f2) (.ref x)) := Heap.get?_push_at rfl rfl
  refine PySem.W.callWith_M0 (K := X.K) ⟨hmo, I2.kIn⟩ hfn ?_
  refine wpAny_call (ks_codeAny_call_bound hmo ?_)
  exact run_fnC (us := [.ref x]) (vs := [.ref x]) F hr hb hd hx I2 (.cons rfl .nil) q
/-- super().m(e, ..) -/
theorem pea_super {pl : Sem Bool} {body : List Stmt} {p0 p1 : Pos} {g cda D f2 : Addr} {gd : FuncData} {ar : Arg} {file : Str} {j : Nat} {oc : Value} {od : Option Addr} {osl : Array (Option Value)}
    (T : SupTx X.prog X.K X.mg g cda D file) (hks : X.env.scope.names.lookup ("super" : Str) = some .globalImplicit) (hkc : X.env.scope.names.lookup ("__class__" : Str) = some .free) (hat : (m == ("__class__" : Str)) = false)
    (hfu : X.env.func = some g) (hg : X.K.lookup g = some ⟨oc, od, .func gd, osl⟩) (hp : (gd.params.posonlyargs ++ gd.params.args).head? = some ar) (hco : X.env.code = .ref cda)
    (h0 : X.N[0]? = some ar.arg) (v0 : Vis X.env.scope ar.arg) (c0 : (ar.arg == ("__classdict__" : Str)) = false) (hj : X.N[j]? = some "__class__")
    (F : FnOk X.prog X.w X.K X.mg X.base CX k f2 fd ps sp) (hr : Room k X.A) (hb : Binds X.K fd ps ds) (hd : Vals dvs ds) (hx : Passes CX X E) (hf : PySem.W.isFn X.K (.ref f2) = true) (hfn : PySem.W.fnIn X.K f2 = true) (ha : PA X (e :: es) t)
    (hst : starEach (e :: es) X.env = (false, eval e X.env) :: starEach es X.env := by rfl) (hpl : (backTo pos (starEach es X.env)).any (·.1) = false := by rfl)
    (he : eval (.Call (.Attribute (.Call (.Name "super" p0) [] [] p1) m apos) (e :: es) [] pos) X.env = (do
      let ov ← attributeBase (.Call (.Name "super" p0) [] [] p1) m X.env (eval (.Call (.Name "super" p0) [] [] p1) X.env)
      standAt apos.atName
      let (f, first) ← holding [ov] (getMethod ov m pl)
      callWith pos f first (backTo pos (starEach (e :: es) X.env)) []) := by rfl) :
    PEa X (.func body X.env) (.Call (.Attribute (.Call (.Name "super" p0) [] [] p1) m apos) (e :: es) [] pos) (tSup X.K D m f2 j sp dvs E t) := by
  refine ⟨fun pins s σ H Q I q => ?_⟩
  obtain ⟨x, C, dx, fs, e0, ej, ex, hs, q⟩ := q
  refine ks_wpAt_MethodCall (pl := pl) (sup_base I T hks hkc hat hfu hg hp hco h0 v0 c0 hj e0 ej ex hs.sub fun h' hso kp => ?_) he
  have I1 : Inv X pins σ H { s with heap := h' } := I.kept (t' := s.toks) kp
  refine sup_meth I1 T ex hs hf hat hso ?_
  have I2 : Inv X pins σ H { s with heap := h'.push { cls := .type "method", data := .fields #[.ref f2, .ref x] }, toks := s.toks + 1 } := I1.kept (t' := s.toks + 1) fun b o e => Heap.get?_push_of_some _ e
  have hmo : (h'.push { cls := .type "method", data := .fields #[.ref f2, .ref x] }).get? h'.objs.size = some (PySem.W.methodObj (.ref f2) (.ref x)) := Heap.get?_push_at rfl rfl
  have hfr : H h'.objs.size = none := I1.hok.fresh (Nat.le_refl _)
  have I3 : Inv X ((h'.objs.size, PySem.W.methodObj (.ref f2) (.ref x)) :: pins) σ H { s with heap := h'.push { cls := .type "method", data := .fields #[.ref f2, .ref x] }, toks := s.toks + 1 } := by
    refine I2.pins_of fun p hp => ?_
    rcases List.mem_cons.mp hp with rfl | hp
    · refine ⟨hmo, hfr, fun z => ?_, I1.nofs (Nat.le_refl _), fun v z => nomatch z⟩
      exact absurd I1.lt (by rw [← z]; exact Nat.lt_irrefl _)
    · exact I2.pin p (List.mem_append_right _ hp)
  have hcall := PySem.W.callWith_M (K := X.K) (pos := pos) (first := []) (h₀ := X.base) (L := X.env.locals) (news := [(h'.objs.size, PySem.W.methodObj (.ref f2) (.ref x))]) (q := h'.objs.size) (g := f2) (self := .ref x) (M := model X.prog X.w) (A := X.A) (E := X.xe) (Q := EP X pins σ Q) I.mod.kin (fun p hp => by
    obtain rfl := List.mem_singleton.mp hp
    refine ⟨hmo, fun z => absurd I1.lt (by rw [← z]; exact Nat.lt_irrefl _), ?_⟩
    cases z : X.base.get? h'.objs.size with
    | none => rfl
    | some o => exact absurd (Heap.lt_size (I1.bk _ _ z)) (Nat.lt_irrefl _)) List.mem_cons_self hfn (thn (ha.run pos _ _ σ H _ I3 q) fun us s2 ⟨vs, H2, I4, r, q2⟩ => ⟨⟨(I4.pin _ (List.mem_append_right _ List.mem_cons_self)).1, I4.kIn⟩, ?_⟩) hst hpl
  · exact hcall
  · have hm2 := (I4.pin (h'.objs.size, PySem.W.methodObj (.ref f2) (.ref x)) (List.mem_append_right _ List.mem_cons_self)).1
    refine wpAny_call (ks_codeAny_call_bound hm2 ?_)
    have I5 : Inv X pins σ H2 s2 := I4.pins_of fun p hp => I4.pin p (List.mem_append_right _ (List.mem_cons_of_mem _ hp))
    exact run_fnC (us := .ref x :: us) (vs := .ref x :: vs) F hr hb hd hx I5 (.cons rfl r) q2
end

/-! ### a method that names super -/
theorem look1 {y k : Str} {c d : Addr} (h : [(k, c)].lookup y = some d) : y = k ∧ d = c := by
  rw [List.lookup_cons] at h
  split at h
  · rename_i e
    exact ⟨eq_of_beq e, (Option.some.inj h).symm⟩
  · cases h
/-- the method st of the class at D, closed over __class__ -/
structure FunS (K : PySem.W.Frag) (x qual : Str) (st : Stmt) (f cda D : Addr) (fd : FuncData) : Prop where
  ex : ∃ (oc : Value) (od : Option Addr) (kV doc pm : Value) (an : Option Addr) (ct : Value) (osl : Array (Option Value)) (cc : Addr) (cl : Value) (cld : Option Addr) (csl : Array (Option Value)),
    fd = PySem.W.ksFn x qual (defArgs st) (defBody st) (defScope st) .none kV doc pm an (.ref cda) ct cc ∧ K.lookup f = some ⟨oc, od, .func fd, osl⟩ ∧ PySem.W.codeIn K (.ref cda) qual = true ∧ K.lookup cc = some ⟨cl, cld, .cell (some (.ref D)), csl⟩
  kp : PySem.W.keepIn K (.ref f) = true
section
variable {P : Program} {w : World} {K : PySem.W.Frag} {mg : Str → Option Value} {base : Heap} {CX : CXT}
abbrev nfOf (x qual : Str) (st : Stmt) (cda cc : Addr) : NdefX.NF := ⟨x, qual, defArgs st, defBody st, defScope st, [("__class__", cc)], cda⟩
theorem FunS.ok {x qual : Str} {st : Stmt} {f cda D : Addr} {fd : FuncData} {N ps : List Str} {k : Nat} {sp : Sp} (F : FunS K x qual st f cda D fd) (S : NdefX.NScope N ps ["__class__"] (defScope st)) (len : ∀ vs H Q E, sp vs H Q E → vs.length = ps.length)
    (hbody : ∀ (cc : Addr) (oc : Value) (od : Option Addr) (osl : Array (Option Value)) (A : Around) (outer : List Env) (s : Shared) (H : Hp) (vs : List V) (Q : VK) (E : XK), K.lookup f = some ⟨oc, od, .func fd, osl⟩ → fd.params = defArgs st →
      Room k (A.deeper (NdefX.envF (nfOf x qual st cda cc) f s.heap.objs.size)) → sp vs H Q E →
      ∃ t, PSsa (NdefX.ncx CX P w K mg base N (nfOf x qual st cda cc) f A outer s H E) (.func (defBody st) (NdefX.envF (nfOf x qual st cda cc) f s.heap.objs.size)) (defBody st) t ∧ t { nx := fun _ H' => Q .non H', rt := Q } (NdefX.startF N vs [some (.ref D)]) H) :
    FnOk P w K mg base CX (k + 1) f fd ps sp := by
  obtain ⟨oc, od, kV, doc, pm, an, ct, osl, cc, cl, cld, csl, rfl, lk, hcd, hcc⟩ := F.ex
  refine ⟨len, fun A outer s H args us vs Q E hr e0 hb r hsp => ?_⟩
  have hl := len _ _ _ _ hsp
  have KX : K.In s.heap := e0.mod.kin.keeps fun b o e => (e0.bs b o e).1
  have lim : s.heap.NoLimit := e0.mod.nolimit.keeps fun b o e => (e0.bs b o e).1
  refine ks_codeAny_call_defAt (binds := ps.zip us) hr.depth (KX _ _ lk) rfl lim (PySem.W.codeRec_of KX hcd) rfl hb S.nocell (fun y hy => S.par y.1 (List.of_mem_zip hy).1) (fun h₁ hns kp => ?_) S.co S.gen S.kind
  obtain ⟨t, ht, hq⟩ := hbody cc oc od osl A outer s H vs Q E lk rfl (hr.deeper _) hsp
  have C : NdefX.CellsAt [("__class__", cc)] ["__class__"] [some (V.ref D)] s.heap H := by
    have hcc' := KX _ _ hcc
    have hn : H cc = none := (e0.bs _ _ (e0.mod.kin _ _ hcc)).2
    refine ⟨rfl, fun y c e => ?_, fun y z c e1 e2 => ?_, fun i y hi => ?_⟩
    · obtain ⟨_, rfl⟩ := look1 e
      exact ⟨hn, _, _, hcc', rfl⟩
    · rw [(look1 e1).1, (look1 e2).1]
    · cases i with
      | zero =>
        have : y = "__class__" := by simpa using hi.symm
        subst this
        refine ⟨cc, by rw [List.lookup_cons, beq_self_eq_true], fun v hv => ?_⟩
        have : v = .ref D := by simpa using hv.symm
        subst this
        exact ⟨.ref D, rfl, _, hcc', rfl⟩
      | succ i => simp at hi
  have I : Inv (NdefX.ncx CX P w K mg base N (nfOf x qual st cda cc) f A outer s H E) [] (NdefX.startF N vs [some (V.ref D)]) H { s with heap := h₁, toks := s.toks + (ps.zip us).length } := NdefX.inv_startN (F := nfOf x qual st cda cc) S hr.hd e0 hl r C hns kp
  refine PySem.wpAt_mono (ht.run [] _ _ H _ I hq) (fun fl s' hs => ?_) fun e s' hs => hs
  have fin : ∀ {σ' : L2.St} {H' : Hp} {v : V} {u : Value}, Inv (NdefX.ncx CX P w K mg base N (nfOf x qual st cda cc) f A outer s H E) [] σ' H' s' → L2.RelV v u → Q v H' → CE outer P w H s Q u s' :=
    fun {σ' H' v u} J rv q => ⟨v, H', J.os, J.bare, J.base, J.hok, rv, q⟩
  cases fl with
  | ret u =>
    obtain ⟨v, σ', H', J, rv, q⟩ := hs
    exact fin J rv q
  | next =>
    obtain ⟨σ', H', J, q⟩ := hs
    exact fin (v := V.non) (u := Value.none) J rfl q
  | brk =>
    obtain ⟨_, _, _, q⟩ := hs
    exact False.elim q
  | cont =>
    obtain ⟨_, _, _, q⟩ := hs
    exact False.elim q
end
end L2

/-! == and != with both answers, where items are compared by an own __eq__. -/
namespace GB
open PySem PySem.SeqAt
open AutoSeq1 (wpAny_loadPart')
open MeetsSeq MeetsSeq2 MeetsSeq3 SeqRoads2
open GQ (FinOf)
section
variable {prog : Program} {w : World} {A : Around} {R : Result → Shared → Prop}
/-- the two lists read anew at each turn; the i-th two are equal as e says -/
def ListB (prog : Program) (w : World) (A : Around) (E : Value → Shared → Prop) (l b : Addr) (N : Nat) (e : Nat → Bool) (I : Shared → Prop) : Prop :=
  ∀ s, I s → ∃ (items items2 : Array Value) (n n2 : Nat), s.heap.get? l = some { cls := .type "list", data := .seq items n } ∧ s.heap.get? b = some { cls := .type "list", data := .seq items2 n2 } ∧ items.size = N ∧ items2.size = N ∧
    ∀ i (h1 : i < items.size) (h2 : i < items2.size), wpAny (model prog w) A.in1 (eqBool items[i] items2[i]) (fun r s' => r = e i ∧ I s') E s
theorem drop_range {N i : Nat} (h : i < N) : (List.range N).drop i = i :: (List.range N).drop (i + 1) := by simp [List.drop_eq_getElem_cons, h]
theorem eq_loopB (l b : Addr) (N : Nat) (e : Nat → Bool) (I : Shared → Prop) (hl : ListB prog w A (fun e s' => R (.error e) s') l b N e I) (k : Nat) :
    ∀ i : Nat, N - i = k → i ≤ N → ∀ s, I s → (∀ s, I s → R (.ok (.ret (.bool (((List.range N).drop i).all e)))) s) →
      wpAny (model prog w) A.in1 (Builtin.«list.__eq__.loop» ⟨[.ref l, .ref b, rawInt i, rawInt 2], []⟩) (FinOf prog w A R) (fun e s' => R (.error e) s') s := by
  induction k with
  | zero =>
    intro i hk hi s h fin
    obtain ⟨items, items2, n, n2, hl1, hb1, hs1, hs2, _⟩ := hl _ h
    have hi' : i = N := by omega
    have hR := fin s h
    rw [hi', List.drop_of_length_le (by simp)] at hR
    obtain ⟨hp, g, d, tk, os⟩ := s
    wp_walk using wpAny_loadPart' hl1, wpAny_loadPart' hb1
    have hi1 : items[((i : Nat) : Int).toNat]? = none := by simp; omega
    have hi2 : items2[((i : Nat) : Int).toNat]? = none := by simp; omega
    rw [hi1, hi2]
    wp_walk using wpAny_loadPart' hl1, wpAny_loadPart' hb1
    show R (.ok (.ret (.bool (items.size == items2.size)))) _
    rw [hs1, hs2]
    simpa using hR
  | succ k ih =>
    intro i hk hi s h fin
    obtain ⟨items, items2, n, n2, hl1, hb1, hs1, hs2, turn⟩ := hl _ h
    have hlt : i < items.size := by omega
    have hlt2 : i < items2.size := by omega
    have ht := turn i hlt hlt2
    rw [drop_range (show i < N by omega), List.all_cons] at fin
    obtain ⟨hp, g, d, tk, os⟩ := s
    wp_walk using wpAny_loadPart' hl1, wpAny_loadPart' hb1
    have hi1 : items[((i : Nat) : Int).toNat]? = some items[i] := by simp [hlt]
    have hi2 : items2[((i : Nat) : Int).toNat]? = some items2[i] := by simp [hlt2]
    have hc : ((i : Int) + 1) = ((i + 1 : Nat) : Int) := by omega
    rw [hi1, hi2]
    refine wpAny_bind (wpAny_mono ht (fun r s2 h2 => ?_) fun _ _ x => x)
    obtain ⟨hr, h2⟩ := h2
    subst hr
    cases he : e i with
    | true =>
      rw [he] at fin
      have hrec := ih (i + 1) (by omega) (by omega) s2 h2 (by simpa using fin)
      obtain ⟨hp2, g2, d2, tk2, os2⟩ := s2
      wp_walk
      rw [hc]
      exact ⟨plainId_quiet plain_eq_loop _, codeAny_builtin entry_eq_loop (by
        rw [Around.under_plainId plain_eq_loop _]
        exact hrec)⟩
    | false =>
      rw [he] at fin
      obtain ⟨items3, items4, n3, n4, hl2, hb2, hs3, hs4, _⟩ := hl _ h2
      have hR := fin _ h2
      have hj1 : items3[((i : Nat) : Int).toNat]? = some (items3[i]'(by omega)) := by simp [show i < items3.size by omega]
      have hj2 : items4[((i : Nat) : Int).toNat]? = some (items4[i]'(by omega)) := by simp [show i < items4.size by omega]
      obtain ⟨hp2, g2, d2, tk2, os2⟩ := s2
      wp_walk using wpAny_loadPart' hl2, wpAny_loadPart' hb2
      rw [hj1, hj2]
      wp_walk
      simpa using hR
theorem ne_loopB (l b : Addr) (N : Nat) (e : Nat → Bool) (I : Shared → Prop) (hl : ListB prog w A (fun e s' => R (.error e) s') l b N e I) (k : Nat) :
    ∀ i : Nat, N - i = k → i ≤ N → ∀ s, I s → (∀ s, I s → R (.ok (.ret (.bool (!((List.range N).drop i).all e)))) s) →
      wpAny (model prog w) A.in1 (Builtin.«list.__eq__.loop» ⟨[.ref l, .ref b, rawInt i, rawInt 3], []⟩) (FinOf prog w A R) (fun e s' => R (.error e) s') s := by
  induction k with
  | zero =>
    intro i hk hi s h fin
    obtain ⟨items, items2, n, n2, hl1, hb1, hs1, hs2, _⟩ := hl _ h
    have hi' : i = N := by omega
    have hR := fin s h
    rw [hi', List.drop_of_length_le (by simp)] at hR
    obtain ⟨hp, g, d, tk, os⟩ := s
    wp_walk using wpAny_loadPart' hl1, wpAny_loadPart' hb1
    have hi1 : items[((i : Nat) : Int).toNat]? = none := by simp; omega
    have hi2 : items2[((i : Nat) : Int).toNat]? = none := by simp; omega
    rw [hi1, hi2]
    wp_walk using wpAny_loadPart' hl1, wpAny_loadPart' hb1
    show R (.ok (.ret (.bool (items.size != items2.size)))) _
    rw [hs1, hs2]
    simpa using hR
  | succ k ih =>
    intro i hk hi s h fin
    obtain ⟨items, items2, n, n2, hl1, hb1, hs1, hs2, turn⟩ := hl _ h
    have hlt : i < items.size := by omega
    have hlt2 : i < items2.size := by omega
    have ht := turn i hlt hlt2
    rw [drop_range (show i < N by omega), List.all_cons] at fin
    obtain ⟨hp, g, d, tk, os⟩ := s
    wp_walk using wpAny_loadPart' hl1, wpAny_loadPart' hb1
    have hi1 : items[((i : Nat) : Int).toNat]? = some items[i] := by simp [hlt]
    have hi2 : items2[((i : Nat) : Int).toNat]? = some items2[i] := by simp [hlt2]
    have hc : ((i : Int) + 1) = ((i + 1 : Nat) : Int) := by omega
    rw [hi1, hi2]
    refine wpAny_bind (wpAny_mono ht (fun r s2 h2 => ?_) fun _ _ x => x)
    obtain ⟨hr, h2⟩ := h2
    subst hr
    cases he : e i with
    | true =>
      rw [he] at fin
      have hrec := ih (i + 1) (by omega) (by omega) s2 h2 (by simpa using fin)
      obtain ⟨hp2, g2, d2, tk2, os2⟩ := s2
      wp_walk
      rw [hc]
      exact ⟨plainId_quiet plain_eq_loop _, codeAny_builtin entry_eq_loop (by
        rw [Around.under_plainId plain_eq_loop _]
        exact hrec)⟩
    | false =>
      rw [he] at fin
      obtain ⟨items3, items4, n3, n4, hl2, hb2, hs3, hs4, _⟩ := hl _ h2
      have hR := fin _ h2
      have hj1 : items3[((i : Nat) : Int).toNat]? = some (items3[i]'(by omega)) := by simp [show i < items3.size by omega]
      have hj2 : items4[((i : Nat) : Int).toNat]? = some (items4[i]'(by omega)) := by simp [show i < items4.size by omega]
      obtain ⟨hp2, g2, d2, tk2, os2⟩ := s2
      wp_walk using wpAny_loadPart' hl2, wpAny_loadPart' hb2
      rw [hj1, hj2]
      wp_walk
      simpa using hR
theorem list_eqB (l b : Addr) (N : Nat) (e : Nat → Bool) (I : Shared → Prop) (hl : ListB prog w A (fun e s' => R (.error e) s') l b N e I)
    (fin : ∀ s, I s → R (.ok (.ret (.bool ((List.range N).all e)))) s) {s : Shared} (h : I s) :
    wpAny (model prog w) A.in1 (Builtin.«list.__eq__» ⟨[.ref l, .ref b], []⟩) (FinOf prog w A R) (fun e s' => R (.error e) s') s := by
  obtain ⟨items, items2, n, n2, hl1, hb1, hs1, hs2, _⟩ := hl _ h
  have hrec := eq_loopB (A := A) (R := R) l b N e I hl _ 0 rfl (Nat.zero_le _) s h (by simpa using fin)
  obtain ⟨hp, g, d, tk, os⟩ := s
  have f3 := AutoSeq1.sub_list_list
  have hne : ¬ (items.size != items2.size) = true := by simp [hs1, hs2]
  wp_walk using wpAny_loadPart' hl1, wpAny_loadPart' hb1
  exact ⟨plainId_quiet plain_eq_loop _, codeAny_builtin entry_eq_loop (by
    rw [Around.under_plainId plain_eq_loop _]
    exact hrec)⟩
theorem list_neB (l b : Addr) (N : Nat) (e : Nat → Bool) (I : Shared → Prop) (hl : ListB prog w A (fun e s' => R (.error e) s') l b N e I)
    (fin : ∀ s, I s → R (.ok (.ret (.bool (!(List.range N).all e)))) s) {s : Shared} (h : I s) :
    wpAny (model prog w) A.in1 (Builtin.«list.__ne__» ⟨[.ref l, .ref b], []⟩) (FinOf prog w A R) (fun e s' => R (.error e) s') s := by
  obtain ⟨items, items2, n, n2, hl1, hb1, hs1, hs2, _⟩ := hl _ h
  have hrec := ne_loopB (A := A) (R := R) l b N e I hl _ 0 rfl (Nat.zero_le _) s h (by simpa using fin)
  obtain ⟨hp, g, d, tk, os⟩ := s
  have f3 := AutoSeq1.sub_list_list
  have hne : ¬ (items.size != items2.size) = true := by simp [hs1, hs2]
  wp_walk using wpAny_loadPart' hl1, wpAny_loadPart' hb1
  exact ⟨plainId_quiet plain_eq_loop _, codeAny_builtin entry_eq_loop (by
    rw [Around.under_plainId plain_eq_loop _]
    exact hrec)⟩
theorem tuple_eqB (l b : Addr) (items items2 : Array Value) (n n2 : Nat) (dd dd2 : Option Addr) (sl sl2 : Array (Option Value)) (e : Nat → Bool) (I : Shared → Prop)
    (turn : ∀ i (h1 : i < items.size) (h2 : i < items2.size) s, I s → wpAny (model prog w) A.in1 (eqBool items[i] items2[i]) (fun r s' => r = e i ∧ I s') (fun e s' => R (.error e) s') s)
    (fin : ∀ s, I s → R (.ok (.ret (.bool ((List.range (min items.size items2.size)).all e && items.size == items2.size)))) s) {s : Shared} (hl1 : s.heap.get? l = some { cls := .type "tuple", dict := dd, data := .seq items n, slots := sl }) (hb1 : s.heap.get? b = some { cls := .type "tuple", dict := dd2, data := .seq items2 n2, slots := sl2 }) (h : I s) :
    wpAny (model prog w) A.in1 (Builtin.«tuple.__eq__» ⟨[.ref l, .ref b], []⟩) (FinOf prog w A R) (fun e s' => R (.error e) s') s := by
  have f2 := AutoSeq1.sub_tuple_tuple
  have hZ : (items.toList.zip items2.toList).length = min items.size items2.size := by simp
  have h0 := h
  obtain ⟨hp, g, d, tk, os⟩ := s
  wp_walk using wpAny_loadPart' hl1, wpAny_loadPart' hb1, wpAny_forIn_list _ (fun rest b s' => b.1 = none ∧ I s' ∧ ∃ i, rest = (items.toList.zip items2.toList).drop i ∧
    ∀ s, I s → R (.ok (.ret (.bool (((List.range (min items.size items2.size)).drop i).all e && items.size == items2.size)))) s) _
  case turn =>
    rintro ⟨y, x⟩ rest b s' ⟨hb', hI, i, hz, hR⟩
    have hlt : i < (items.toList.zip items2.toList).length := by
      rcases Nat.lt_or_ge i (items.toList.zip items2.toList).length with h' | h'
      · exact h'
      · rw [List.drop_of_length_le h'] at hz; cases hz
    have hm : i < min items.size items2.size := hZ ▸ hlt
    have h1 : i < items.size := Nat.lt_of_lt_of_le hm (Nat.min_le_left _ _)
    have h2 : i < items2.size := Nat.lt_of_lt_of_le hm (Nat.min_le_right _ _)
    rw [List.drop_eq_getElem_cons hlt] at hz
    injection hz with hyx hrest
    have hy : y = items[i] := by have := congrArg Prod.fst hyx; simpa using this
    have hx : x = items2[i] := by have := congrArg Prod.snd hyx; simpa using this
    subst hy hx
    rw [drop_range hm, List.all_cons] at hR
    refine wpAny_bind (wpAny_mono (turn i h1 h2 s' hI) (fun r s2 q2 => ?_) fun _ _ x => x)
    obtain ⟨hr, q2⟩ := q2
    subst hr
    cases he : e i with
    | true =>
      rw [he] at hR
      wp_walk
      exact ⟨rfl, q2, i + 1, hrest, by simpa using hR⟩
    | false =>
      rw [he] at hR
      have := hR _ q2
      wp_walk
      simpa using this
  case fin =>
    rintro ⟨b1, b2⟩ s' ⟨hb', hI, i, hz, hR⟩
    simp only at hb'
    subst hb'
    have hge : min items.size items2.size ≤ i := by
      rcases Nat.lt_or_ge i (items.toList.zip items2.toList).length with h' | h'
      · rw [List.drop_eq_getElem_cons h'] at hz; cases hz
      · exact hZ ▸ h'
    rw [List.drop_of_length_le (by simpa using hge)] at hR
    have := hR _ hI
    wp_walk
    simpa [Builtin.Tuple.tupleCompareSizes] using this
  case h =>
    exact ⟨rfl, h0, 0, rfl, by simpa using fin⟩
theorem tuple_neB (l b : Addr) (items items2 : Array Value) (n n2 : Nat) (dd dd2 : Option Addr) (sl sl2 : Array (Option Value)) (e : Nat → Bool) (I : Shared → Prop)
    (turn : ∀ i (h1 : i < items.size) (h2 : i < items2.size) s, I s → wpAny (model prog w) A.in1 (eqBool items[i] items2[i]) (fun r s' => r = e i ∧ I s') (fun e s' => R (.error e) s') s)
    (fin : ∀ s, I s → R (.ok (.ret (.bool (!((List.range (min items.size items2.size)).all e && items.size == items2.size))))) s) {s : Shared} (hl1 : s.heap.get? l = some { cls := .type "tuple", dict := dd, data := .seq items n, slots := sl }) (hb1 : s.heap.get? b = some { cls := .type "tuple", dict := dd2, data := .seq items2 n2, slots := sl2 }) (h : I s) :
    wpAny (model prog w) A.in1 (Builtin.«tuple.__ne__» ⟨[.ref l, .ref b], []⟩) (FinOf prog w A R) (fun e s' => R (.error e) s') s := by
  have f2 := AutoSeq1.sub_tuple_tuple
  have hZ : (items.toList.zip items2.toList).length = min items.size items2.size := by simp
  have h0 := h
  obtain ⟨hp, g, d, tk, os⟩ := s
  wp_walk using wpAny_loadPart' hl1, wpAny_loadPart' hb1, wpAny_forIn_list _ (fun rest b s' => b.1 = none ∧ I s' ∧ ∃ i, rest = (items.toList.zip items2.toList).drop i ∧
    ∀ s, I s → R (.ok (.ret (.bool (!(((List.range (min items.size items2.size)).drop i).all e && items.size == items2.size))))) s) _
  case turn =>
    rintro ⟨y, x⟩ rest b s' ⟨hb', hI, i, hz, hR⟩
    have hlt : i < (items.toList.zip items2.toList).length := by
      rcases Nat.lt_or_ge i (items.toList.zip items2.toList).length with h' | h'
      · exact h'
      · rw [List.drop_of_length_le h'] at hz; cases hz
    have hm : i < min items.size items2.size := hZ ▸ hlt
    have h1 : i < items.size := Nat.lt_of_lt_of_le hm (Nat.min_le_left _ _)
    have h2 : i < items2.size := Nat.lt_of_lt_of_le hm (Nat.min_le_right _ _)
    rw [List.drop_eq_getElem_cons hlt] at hz
    injection hz with hyx hrest
    have hy : y = items[i] := by have := congrArg Prod.fst hyx; simpa using this
    have hx : x = items2[i] := by have := congrArg Prod.snd hyx; simpa using this
    subst hy hx
    rw [drop_range hm, List.all_cons] at hR
    refine wpAny_bind (wpAny_mono (turn i h1 h2 s' hI) (fun r s2 q2 => ?_) fun _ _ x => x)
    obtain ⟨hr, q2⟩ := q2
    subst hr
    cases he : e i with
    | true =>
      rw [he] at hR
      wp_walk
      exact ⟨rfl, q2, i + 1, hrest, by simpa using hR⟩
    | false =>
      rw [he] at hR
      have := hR _ q2
      wp_walk
      simpa using this
  case fin =>
    rintro ⟨b1, b2⟩ s' ⟨hb', hI, i, hz, hR⟩
    simp only at hb'
    subst hb'
    have hge : min items.size items2.size ≤ i := by
      rcases Nat.lt_or_ge i (items.toList.zip items2.toList).length with h' | h'
      · rw [List.drop_eq_getElem_cons h'] at hz; cases hz
      · exact hZ ▸ h'
    rw [List.drop_of_length_le (by simpa using hge)] at hR
    have := hR _ hI
    wp_walk
    simpa [Builtin.Tuple.tupleCompareSizes, bne] using this
  case h =>
    exact ⟨rfl, h0, 0, rfl, by simpa using fin⟩
end
end GB

/-! == and != of own instances, of lists and tuples of such: judgements with both answers. -/
namespace GB
open PySem PySem.W
section
variable {prog : Program} {w : World} {A : Around} {E : Value → Shared → Prop} {s : Shared} {K : Frag} {x C f : Addr} {ox : Obj} {od : Option Obj} {b tb : Value}
/-- one side's __eq__ -/
theorem tc_eq {Q : Option Value → Shared → Prop} (X : K.In s.heap) (I : InstAt s.heap x ox C od) (hs : findIn K (.ref C) "__eq__" = some (some (.ref f))) (hf : isFn K (.ref f) = true)
    (h : wpAny (model prog w) A (call (.ref f) [.ref x, b]) (fun v s' => ∃ k, v = .bool k ∧ Q (some (.bool k)) s') E s) : wpAny (model prog w) A (tryCompare (.ref x) "__eq__" b) Q E s := by
  unfold tryCompare
  refine wpAny_bind (ifBound_K X I hs hf (wpAny_mono h (fun v s' hv => ?_) fun _ _ e => e))
  obtain ⟨k, rfl, q⟩ := hv
  exact wpAny_pure q
theorem ifBound_ne {Q : Option Value → Shared → Prop} (X : K.In s.heap) (I : InstAt s.heap x ox C od) (hs : findIn K (.ref C) "__ne__" = some (some (.builtin "object.__ne__")))
    (h : wpAny (model prog w) A (call (.builtin "object.__ne__") [.ref x, b]) (fun v => Q (some v)) E s) : wpAny (model prog w) A (callSpecialIfBound? (.ref x) "__ne__" [b]) Q E s := by
  simp only [callSpecialIfBound?, bindSpecialIfBound?]
  refine wpAny_holding (wpAny_bind (wpAny_bind (wpAny_bind (I.type.here ((looks_findIn X hs).here ?_)))))
  simp only [F.cmp_object.ne.bind]
  refine wpAny_bind (wpAny_askSetting (wpAny_ite ?_))
  have fin : wpAny (model prog w) A (call (.builtin "object.__ne__") ([.ref x] ++ [b]) >>= fun v => pure (some v)) Q E s := wpAny_bind (wpAny_mono h (fun v s' h' => wpAny_pure h') fun _ _ h' => h')
  split
  · exact wpAny_bind (wpAny_pure (wpAny_pure fin))
  · exact wpAny_tryCatch (wpAny_bind (wpAny_pure (wpAny_pure fin)))
theorem objNe_own {Q : Fin → Shared → Prop} (X : K.In s.heap) (I : InstAt s.heap x ox C od) (hs : findIn K (.ref C) "__eq__" = some (some (.ref f))) (hf : isFn K (.ref f) = true) (hu : A.units < cLine)
    (h : wpAny (model prog w) A (call (.ref f) [.ref x, b]) (fun v s' => ∃ k, v = .bool k ∧ Q (.done (.ret (.bool (!k)))) s') E s) :
    wpAny (model prog w) A (Builtin.«object.__ne__» ⟨[.ref x, b], []⟩) Q E s := by
  unfold Builtin.«object.__ne__»
  repeat (first
    | with_reducible refine wpAny_cRoomFor hu ?_
    | (refine wpAny_bind (m := callSpecialIfBound? (.ref x) (Str.ofString "__eq__") [b])
        (ifBound_K X I hs hf (wpAny_mono h (fun r s' hr => by
          obtain ⟨b, rfl, hq⟩ := hr
          repeat (first | exact hq | exact wpAny_pure hq | exact wpAny_truthy_bool hq | (refine wpAny_bind (m := truthy (.bool _)) (wpAny_truthy_bool ?_)) | wp_step)) fun _ _ e => e)))
    | wp_step)
/-- one side's __ne__, object's own, by __eq__ -/
theorem tc_ne {Q : Option Value → Shared → Prop} (X : K.In s.heap) (I : InstAt s.heap x ox C od) (hs : findIn K (.ref C) "__eq__" = some (some (.ref f))) (hf : isFn K (.ref f) = true)
    (hn : findIn K (.ref C) "__ne__" = some (some (.builtin "object.__ne__"))) (hm : mroIn K C (.type "object") = some true) (hu : A.in1.units < cLine)
    (h : wpAny (model prog w) A.in1 (call (.ref f) [.ref x, b]) (fun v s' => ∃ k, v = .bool k ∧ Q (some (.bool (!k))) s') E s) : wpAny (model prog w) A (tryCompare (.ref x) "__ne__" b) Q E s := by
  unfold tryCompare
  have sub : Looks (model prog w) s.heap (isInstance (.ref x) (.type "object")) true := I.type.andThen (looks_mroIn X hm)
  refine wpAny_bind (ifBound_ne X I hn (wpAny_call (codeAny_call_builtin F.cmp_object.ne.plain F.cmpEntry_ne (check_slot F.cmpKind_ne F.cmpSplit_ne sub (F.cmpArgs_ne _ _) ?_))))
  refine objNe_own (A := A.in1) X I hs hf hu (wpAny_mono h (fun v s' hv => ?_) fun _ _ e => e)
  obtain ⟨k, rfl, q⟩ := hv
  first | exact ⟨k, rfl, wpAny_pure q⟩ | exact ⟨k, rfl, wpAny_pure (wpAny_pure q)⟩ | exact ⟨k, rfl, q⟩
/-- the left side is asked first -/
theorem rc_left {op : CmpOp} {Q : Value → Shared → Prop} (hu : A.units < cLine) (X : K.In s.heap) (I : InstAt s.heap x ox C od) (hb : Looks (model prog w) s.heap (typeOf b) tb) (hn : notFirst K C tb = true)
    (one : wpAny (model prog w) A (tryCompare (.ref x) (cmpInfo op).2.1 b) (fun r s' => ∃ v, r = some v ∧ Q v s') E s) : wpAny (model prog w) A (richCompare op (.ref x) b) Q E s := by
  unfold richCompare
  simp only [oneThing_ref]
  refine wpAny_holding (wpAny_bind (wpAny_cRoomFor hu ?_))
  refine wpAny_bind (I.type.here (wpAny_bind (hb.here ?_)))
  split
  · rename_i q
    have e : subIn K tb (.ref C) = some false := by
      rcases Bool.or_eq_true_iff.mp hn with e | e
      · rw [beq_iff_eq.mp e] at q; simp at q
      · exact beq_iff_eq.mp e
    refine wpAny_bind ((looks_subIn X e).here ?_)
    simp only [Bool.false_eq_true, if_false]
    refine wpAny_bind (wpAny_mono one (fun r s' z => ?_) fun _ _ e => e)
    obtain ⟨v, rfl, hq⟩ := z
    exact wpAny_pure hq
  · refine wpAny_bind (wpAny_pure ?_)
    simp only [Bool.false_eq_true, if_false]
    refine wpAny_bind (wpAny_mono one (fun r s' z => ?_) fun _ _ e => e)
    obtain ⟨v, rfl, hq⟩ := z
    exact wpAny_pure hq
/-- the right side's class is below the left one's: it is asked first -/
theorem rc_right {op : CmpOp} {Q : Value → Shared → Prop} {y D : Addr} {oy : Obj} {ody : Option Obj} (hu : A.units < cLine) (X : K.In s.heap) (I : InstAt s.heap x ox C od) (J : InstAt s.heap y oy D ody) (hne : D ≠ C) (hsub : mroIn K D (.ref C) = some true)
    (one : wpAny (model prog w) A (tryCompare (.ref y) (cmpInfo op).2.2 (.ref x)) (fun r s' => ∃ v, r = some v ∧ Q v s') E s) : wpAny (model prog w) A (richCompare op (.ref x) (.ref y)) Q E s := by
  unfold richCompare
  simp only [oneThing_ref]
  refine wpAny_holding (wpAny_bind (wpAny_cRoomFor hu ?_))
  refine wpAny_bind (I.type.here (wpAny_bind (J.type.here ?_)))
  have e : (Value.ref C != Value.ref D) = true := by simp [Ne.symm hne]
  rw [if_pos e]
  refine wpAny_bind ((looks_subIn (t := .ref D) X hsub).here ?_)
  simp only [if_true]
  refine wpAny_bind (wpAny_mono one (fun r s' z => ?_) fun _ _ e => e)
  obtain ⟨v, rfl, hq⟩ := z
  repeat (first | exact hq | exact wpAny_pure hq | wp_step)
end
end GB

namespace L2
open PySem PySem.Spec PyProof.Rows
/-- how two values are seen to be equal or not, by the abstract heap -/
abbrev EqvB := V → V → Hp → Bool → Prop
def MonB (D : EqvB) : Prop := ∀ x y H H' b, Ext H H' → D x y H b → D x y H' b
def EqB (X : Cx) (n : Nat) (D : EqvB) : Prop :=
  ∀ (A : Around) (pins : List (Addr × Obj)) (s : Shared) (σ : St) (H : Hp) (x y : V) (u v : Value) (b : Bool), Sub X n A → Inv X pins σ H s → RelV x u → RelV y v → D x y H b →
    wpAny (model X.prog X.w) A (eqBool u v) (fun r s' => r = b ∧ ∃ H', Inv X pins σ H' s' ∧ Ext H H') X.xe s
/-- ne = false: ==; ne = true: != -/
def opOf (ne : Bool) : CmpOp := if ne then .NotEq else .Eq
def RcB (X : Cx) (n : Nat) (ne : Bool) (D : EqvB) : Prop :=
  ∀ (A : Around) (pins : List (Addr × Obj)) (s : Shared) (σ : St) (H : Hp) (x y : V) (u v : Value) (b : Bool), Sub X n A → Inv X pins σ H s → RelV x u → RelV y v → D x y H b →
    wpAny (model X.prog X.w) A (richCompare (opOf ne) u v) (fun r s' => r = .bool (ne != b) ∧ ∃ H', Inv X pins σ H' s' ∧ Ext H H') X.xe s
section
variable {X : Cx} {n m : Nat} {ne : Bool} {D D' : EqvB}
theorem EqB.mono (h : EqB X n D) (hn : n ≤ m) : EqB X m D := fun A pins s σ H x y u v b sb => h A pins s σ H x y u v b (sb.mono hn)
theorem RcB.mono (h : RcB X n ne D) (hn : n ≤ m) : RcB X m ne D := fun A pins s σ H x y u v b sb => h A pins s σ H x y u v b (sb.mono hn)
theorem EqB.or (h : EqB X n D) (h' : EqB X n D') : EqB X n (fun x y H b => D x y H b ∨ D' x y H b) := fun A pins s σ H x y u v b sb I rx ry d => by
  rcases d with d | d
  · exact h A pins s σ H x y u v b sb I rx ry d
  · exact h' A pins s σ H x y u v b sb I rx ry d
theorem RcB.or (h : RcB X n ne D) (h' : RcB X n ne D') : RcB X n ne (fun x y H b => D x y H b ∨ D' x y H b) := fun A pins s σ H x y u v b sb I rx ry d => by
  rcases d with d | d
  · exact h A pins s σ H x y u v b sb I rx ry d
  · exact h' A pins s σ H x y u v b sb I rx ry d
theorem RcB.imp (h : RcB X n ne D) (hd : ∀ x y H b, D' x y H b → D x y H b) : RcB X n ne D' := fun A pins s σ H x y u v b sb I rx ry d => h A pins s σ H x y u v b sb I rx ry (hd x y H b d)
theorem MonB.or (h : MonB D) (h' : MonB D') : MonB (fun x y H b => D x y H b ∨ D' x y H b) := fun x y H H' b e d => d.elim (fun d => .inl (h x y H H' b e d)) fun d => .inr (h' x y H H' b e d)
/-- flat values -/
def DFl : EqvB := fun x y _ b => flatV x = true ∧ flatV y = true ∧ b = eqV x y
theorem monB_flat : MonB DFl := fun _ _ _ _ _ _ d => d
theorem eqB_flat : EqB X 0 DFl := by
  intro A pins s σ H x y u v b sb I rx ry d
  obtain ⟨fx, fy, rfl⟩ := d
  exact eqAt_V (A := A) (s := s) rx ry fx fy X.prog X.w X.xe _ ⟨rfl, H, I, Ext.rfl'⟩
/-- item by item, as e says -/
def PrsB (D : EqvB) (xs ys : List V) (H : Hp) (e : Nat → Bool) : Prop := ∀ (i : Nat) x y, xs[i]? = some x → ys[i]? = some y → D x y H (e i)
theorem PrsB.mon (hD : MonB D) {xs ys : List V} {H H' : Hp} {e : Nat → Bool} (x : Ext H H') (p : PrsB D xs ys H e) : PrsB D xs ys H' e := fun i a b h1 h2 => hD a b H H' _ x (p i a b h1 h2)
theorem turnB (hD : MonB D) (h : EqB X n D) {A : Around} (sb : Sub X (n + 1) A) {pins : List (Addr × Obj)} {σ : St} {H : Hp} {xs ys : List V} {e : Nat → Bool} {its its2 : List Value} (p : PrsB D xs ys H e) (r : Vals xs its) (r2 : Vals ys its2)
    (i : Nat) (h1 : i < its.toArray.size) (h2 : i < its2.toArray.size) (s' : Shared) (l : LoopI X pins σ H s') :
    wpAny (model X.prog X.w) A.in1 (eqBool its.toArray[i] its2.toArray[i]) (fun r s2 => r = e i ∧ LoopI X pins σ H s2) X.xe s' := by
  obtain ⟨H1, I1, e1⟩ := l
  have g1 : its[i]? = some its.toArray[i] := by
    have h1' : i < its.length := by simpa using h1
    rw [List.getElem?_eq_getElem h1'] <;> simp
  have g2 : its2[i]? = some its2.toArray[i] := by
    have h2' : i < its2.length := by simpa using h2
    rw [List.getElem?_eq_getElem h2'] <;> simp
  have k1 : i < xs.length := by rw [r.length]; simpa using h1
  have k2 : i < ys.length := by rw [r2.length]; simpa using h2
  obtain ⟨u, hu, ru⟩ := r.get (List.getElem?_eq_getElem k1)
  obtain ⟨v, hv, rv⟩ := r2.get (List.getElem?_eq_getElem k2)
  rw [g1] at hu
  rw [g2] at hv
  rw [Option.some.inj hu, Option.some.inj hv]
  refine wpAny_mono (h A.in1 pins s' σ H1 _ _ u v _ sb.in1 I1 ru rv (hD _ _ _ _ _ e1 (p i _ _ (List.getElem?_eq_getElem k1) (List.getElem?_eq_getElem k2)))) (fun r s2 q => ?_) fun _ _ x => x
  obtain ⟨hr, H2, I2, e2⟩ := q
  exact ⟨hr, H2, I2, e1.trans e2⟩
/-- two lists of one length; two tuples -/
def DLs (D : EqvB) : EqvB := fun x y H b => ∃ a c xs ys e, x = .ref a ∧ y = .ref c ∧ H a = some (.lst xs) ∧ H c = some (.lst ys) ∧ xs.length = ys.length ∧ PrsB D xs ys H e ∧ b = (List.range xs.length).all e
def DTp (K : PySem.W.Frag) (D : EqvB) : EqvB := fun x y H b => ∃ a c xs ys e, x = .ref a ∧ y = .ref c ∧ SqT K H a xs ∧ SqT K H c ys ∧ PrsB D xs ys H e ∧ b = ((List.range (min xs.length ys.length)).all e && xs.length == ys.length)
theorem monB_list (hD : MonB D) : MonB (DLs D) := fun x y H H' b ex d => by
  obtain ⟨a, c, xs, ys, e, hx, hy, h1, h2, hl, p, hb⟩ := d
  exact ⟨a, c, xs, ys, e, hx, hy, ex _ _ h1, ex _ _ h2, hl, p.mon hD ex, hb⟩
theorem monB_tup {K : PySem.W.Frag} (hD : MonB D) : MonB (DTp K D) := fun x y H H' b ex d => by
  obtain ⟨a, c, xs, ys, e, hx, hy, h1, h2, p, hb⟩ := d
  exact ⟨a, c, xs, ys, e, hx, hy, h1.ext ex, h2.ext ex, p.mon hD ex, hb⟩
theorem rcB_list (hD : MonB D) (h : EqB X n D) : RcB X (n + 1) ne (DLs D) := by
  intro A pins s σ H x y u v b sb I rx ry d
  obtain ⟨a, c, xs, ys, e, rfl, rfl, ha, hb, hl, p, rfl⟩ := d
  cases rx
  cases ry
  have hL : GB.ListB X.prog X.w A X.xe a c xs.length e (LoopI X pins σ H) := fun s' q => by
    obtain ⟨H1, I1, e1⟩ := id q
    obtain ⟨z, its, k, r, g⟩ := I1.hok a _ (e1 _ _ ha)
    obtain ⟨z2, its2, k2, r2, g2⟩ := I1.hok c _ (e1 _ _ hb)
    exact ⟨its.toArray, its2.toArray, k, k2, g, g2, by rw [List.size_toArray, ← r.length], by rw [List.size_toArray, ← r2.length, ← hl], fun i h1 h2 => turnB hD h sb p r r2 i h1 h2 s' q⟩
  obtain ⟨items, items2, n1, n2, hl1, hb1, _, _, _⟩ := hL s ⟨H, I, Ext.rfl'⟩
  cases ne with
  | false =>
    refine wpAny_richCompare_same_room (op := .Eq) ⟨_, hl1, rfl⟩ ⟨_, hb1, rfl⟩ F.slot_list_eq (GQ.call_here F.slot_list_eq ⟨_, hl1, rfl⟩ F.entry_list_eq (F.args_list_eq_2 _ _) ?_) sb.room.units0
    refine GB.list_eqB (R := wants (fun v s' => v ≠ .notImplemented ∧ v = .bool (false != (List.range xs.length).all e) ∧ ∃ H', Inv X pins σ H' s' ∧ Ext H H') X.xe) a c xs.length e (LoopI X pins σ H) hL (fun s' q => ⟨(fun z => nomatch z), by simp, q⟩) ⟨H, I, Ext.rfl'⟩
  | true =>
    refine wpAny_richCompare_same_room (op := .NotEq) ⟨_, hl1, rfl⟩ ⟨_, hb1, rfl⟩ F.slot_list_ne (GQ.call_here F.slot_list_ne ⟨_, hl1, rfl⟩ F.entry_list_ne (F.args_list_ne_2 _ _) ?_) sb.room.units0
    refine GB.list_neB (R := wants (fun v s' => v ≠ .notImplemented ∧ v = .bool (true != (List.range xs.length).all e) ∧ ∃ H', Inv X pins σ H' s' ∧ Ext H H') X.xe) a c xs.length e (LoopI X pins σ H) hL (fun s' q => ⟨(fun z => nomatch z), by cases (List.range xs.length).all e <;> rfl, q⟩) ⟨H, I, Ext.rfl'⟩
theorem rcB_tup (hD : MonB D) (h : EqB X n D) : RcB X (n + 1) ne (DTp X.K D) := by
  intro A pins s σ H x y u v b sb I rx ry d
  obtain ⟨a, c, xs, ys, e, rfl, rfl, ha, hb, p, rfl⟩ := d
  cases rx
  cases ry
  obtain ⟨its, r, g, z⟩ := I.tuple ha
  obtain ⟨its2, r2, g2, z2⟩ := I.tuple hb
  obtain ⟨⟨cls, dd, data, sl⟩, ho, hc, k, hd⟩ := id g
  obtain ⟨⟨cls2, dd2, data2, sl2⟩, ho2, hc2, k2, hd2⟩ := id g2
  simp only at hc hd hc2 hd2
  subst hc hd hc2 hd2
  have s1 : its.toArray.size = xs.length := by rw [List.size_toArray, ← r.length]
  have s2 : its2.toArray.size = ys.length := by rw [List.size_toArray, ← r2.length]
  cases ne with
  | false =>
    refine wpAny_richCompare_same_room (op := .Eq) ⟨_, ho, rfl⟩ ⟨_, ho2, rfl⟩ F.slot_tuple_eq (GQ.call_here F.slot_tuple_eq ⟨_, ho, rfl⟩ F.entry_tuple_eq (F.args_tuple_eq_2 _ _) ?_) sb.room.units0
    refine GB.tuple_eqB (R := wants (fun v s' => v ≠ .notImplemented ∧ v = .bool (false != ((List.range (min xs.length ys.length)).all e && xs.length == ys.length)) ∧ ∃ H', Inv X pins σ H' s' ∧ Ext H H') X.xe) a c its.toArray its2.toArray k k2 dd dd2 sl sl2 e (LoopI X pins σ H)
      (fun i h1 h2 s' q => turnB hD h sb p r r2 i h1 h2 s' q) (fun s' q => ⟨(fun z => nomatch z), by rw [s1, s2]; simp, q⟩) ho ho2 ⟨H, I, Ext.rfl'⟩
  | true =>
    refine wpAny_richCompare_same_room (op := .NotEq) ⟨_, ho, rfl⟩ ⟨_, ho2, rfl⟩ F.slot_tuple_ne (GQ.call_here F.slot_tuple_ne ⟨_, ho, rfl⟩ F.entry_tuple_ne (F.args_tuple_ne_2 _ _) ?_) sb.room.units0
    refine GB.tuple_neB (R := wants (fun v s' => v ≠ .notImplemented ∧ v = .bool (true != ((List.range (min xs.length ys.length)).all e && xs.length == ys.length)) ∧ ∃ H', Inv X pins σ H' s' ∧ Ext H H') X.xe) a c its.toArray its2.toArray k k2 dd dd2 sl sl2 e (LoopI X pins σ H)
      (fun i h1 h2 s' q => turnB hD h sb p r r2 i h1 h2 s' q) (fun s' q => ⟨(fun z => nomatch z), by rw [s1, s2]; cases ((List.range (min xs.length ys.length)).all e && xs.length == ys.length) <;> rfl, q⟩) ho ho2 ⟨H, I, Ext.rfl'⟩

/-- the type of the other side -/
inductive TyY (H : Hp) : V → Value → Prop where
  | non : TyY H .non (.type "NoneType")
  | bl (x : Bool) : TyY H (.bl x) (.type "bool")
  | int (i : Int) : TyY H (.int i) (.type "int")
  | str (x : Str) : TyY H (.str x) (.type "str")
  | tup {a : Addr} {xs : List V} (e : H a = some (.tup xs)) : TyY H (.ref a) (.type "tuple")
  | lst {a : Addr} {xs : List V} (e : H a = some (.lst xs)) : TyY H (.ref a) (.type "list")
  | dK {a : Addr} {kvs : List (Key × V)} (e : H a = some (.dK kvs)) : TyY H (.ref a) (.type "dict")
  | ins {a C dx : Addr} {fs : List (Str × V)} (e : H a = some (.ins C dx fs)) : TyY H (.ref a) (.ref C)
theorem TyY.mon {H H' : Hp} {y : V} {t : Value} (e : Ext H H') (h : TyY H y t) : TyY H' y t := by
  cases h with
  | non => exact .non
  | bl x => exact .bl x
  | int i => exact .int i
  | str x => exact .str x
  | tup h => exact .tup (e _ _ h)
  | lst h => exact .lst (e _ _ h)
  | dK h => exact .dK (e _ _ h)
  | ins h => exact .ins (e _ _ h)
theorem typeOf_at {M : Model} {h : Heap} {a : Addr} {o : Obj} (e : h.get? a = some o) : PySem.W.Looks M h (typeOf (.ref a)) o.cls := (PySem.W.Looks.ld (part := none) e).andThen .now
theorem TyY.looks {pins : List (Addr × Obj)} {σ : St} {H : Hp} {s : Shared} {M : Model} {y : V} {v t : Value} (I : Inv X pins σ H s) (ry : RelV y v) (h : TyY H y t) : PySem.W.Looks M s.heap (typeOf v) t := by
  cases h with
  | non => cases ry; exact PySem.W.Looks.of_pure rfl
  | bl x => cases ry; exact PySem.W.Looks.of_pure rfl
  | int i => obtain ⟨t, rfl⟩ := ry; exact PySem.W.Looks.of_pure rfl
  | str x => obtain ⟨t, rfl⟩ := ry; exact PySem.W.Looks.of_pure rfl
  | @tup a xs e =>
    cases ry
    obtain ⟨_, _, _, o, h1, h2, _⟩ := (show ObjOk X.prog X.w H s.heap a (.tup xs) from I.hok a _ e)
    rw [← h2]
    exact typeOf_at h1
  | @lst a xs e =>
    cases ry
    obtain ⟨_, _, _, _, h1⟩ := (show ObjOk X.prog X.w H s.heap a (.lst xs) from I.hok a _ e)
    exact typeOf_at h1
  | @dK a kvs e =>
    cases ry
    obtain ⟨_, _, vs, _, o, es, ep, h1, h2, _⟩ := (show ObjOk X.prog X.w H s.heap a (.dK kvs) from I.hok a _ e)
    have := h2.1
    rw [← this]
    exact typeOf_at h1
  | @ins a C dx fs e =>
    cases ry
    obtain ⟨mA, O, _⟩ := ins_get I.hok e
    obtain ⟨od, J, _⟩ := O.look
    exact J.type
/-- an own class with __eq__ at f, != left to object -/
structure OwnE (K : PySem.W.Frag) (C f : Addr) : Prop where
  eq : PySem.W.findIn K (.ref C) "__eq__" = some (some (.ref f))
  ne : PySem.W.findIn K (.ref C) "__ne__" = some (some (.builtin "object.__ne__"))
  ob : PySem.W.mroIn K C (.type "object") = some true
/-- what the own == promises: it only makes objects -/
def spEqB (R : EqvB) : Sp := fun vs H Q _ => ∃ x y b, vs = [x, y] ∧ R x y H b ∧ ∀ H', Ext H H' → Q (.bl b) H'
/-- instances by an own __eq__ at f: the left one is asked, or the right one, if its class is below -/
def DOw (K : PySem.W.Frag) (f : Addr) (R : EqvB) : EqvB := fun x y H b => ∃ a C dx fs, x = .ref a ∧ H a = some (.ins C dx fs) ∧
  ((∃ t, TyY H y t ∧ OwnE K C f ∧ PySem.W.notFirst K C t = true ∧ R x y H b) ∨
   (∃ c D dy gs, y = .ref c ∧ H c = some (.ins D dy gs) ∧ D ≠ C ∧ PySem.W.mroIn K D (.ref C) = some true ∧ OwnE K D f ∧ R y x H b))
theorem monB_own {K : PySem.W.Frag} {f : Addr} {R : EqvB} (hR : MonB R) : MonB (DOw K f R) := fun x y H H' b ex d => by
  obtain ⟨a, C, dx, fs, hx, h1, d⟩ := d
  refine ⟨a, C, dx, fs, hx, ex _ _ h1, ?_⟩
  rcases d with ⟨t, ty, o, nf, r⟩ | ⟨c, D, dy, gs, hy, h2, ne, sb, o, r⟩
  · exact .inl ⟨t, ty.mon ex, o, nf, hR _ _ _ _ _ ex r⟩
  · exact .inr ⟨c, D, dy, gs, hy, ex _ _ h2, ne, sb, o, hR _ _ _ _ _ ex r⟩
theorem in1_units {A : Around} (h : A.units + 64 < cLine) : A.in1.units < cLine := by
  have e : A.in1.units = A.units + 1 := rfl
  omega
theorem rcB_own {CX : CXT} {f : Addr} {fd : FuncData} {ps : List Str} {R : EqvB} {E : XK} (F : FnOk X.prog X.w X.K X.mg X.base CX n f fd ps (spEqB R)) (hf : PySem.W.isFn X.K (.ref f) = true) (hb : Binds X.K fd ps []) (hx : Passes CX X E) : RcB X (n + 1) ne (DOw X.K f R) := by
  intro A pins s σ H x y u v b sb I rx ry d
  obtain ⟨a, C, dx, fs, rfl, ha, d⟩ := d
  cases rx
  obtain ⟨mA, O, _⟩ := ins_get I.hok ha
  obtain ⟨od, J, _⟩ := O.look
  have KX := I.kIn
  -- the call of f upon two values
  have call : ∀ (A' : Around) (p q : V) (u' v' : Value) (P : Value → Shared → Prop), Sub X n A' → RelV p u' → RelV q v' → R p q H b → (∀ s' H', Inv X pins σ H' s' → Ext H H' → P (.bool b) s') →
      wpAny (model X.prog X.w) A' (call (.ref f) [u', v']) P X.xe s := by
    intro A' p q u' v' P sb' rp rq hr hP
    have hsp : spEqB R [p, q] H (fun v H' => v = .bl b ∧ Ext H H') E := ⟨p, q, b, rfl, hr, fun H' e => ⟨rfl, e⟩⟩
    have e0 : Env0 X.prog X.w X.K X.mg X.base A' X.stack s H := by
      have e := I.env0
      exact ⟨by rw [sb'.fr]; exact e.frames, e.mod, e.bs, e.bsz, e.funs, e.frf, e.hok, e.bare⟩
    have hl := F.len _ _ _ _ hsp
    have r2 : Vals [p, q] [u', v'] := .cons rp (.cons rq .nil)
    refine wpAny_call (codeAny_mono (F.run A' X.stack s H ⟨[u', v'], []⟩ [u', v'] [p, q] _ E sb'.room e0 (by
      have := hb s [u', v'] I.kIn (by simpa using hl)
      simpa using this) r2 hsp) fun r s' hq => ?_)
    cases r with
    | error e => exact hx pins σ H s e s' I hq
    | ok fl =>
      cases fl with
      | ret w =>
        obtain ⟨z, H', I', rz, ez, ex⟩ := I.after hq
        subst ez
        cases rz
        exact hP s' H' I' ex
      | next => exact False.elim hq
      | brk => exact False.elim hq
      | cont => exact False.elim hq
  rcases d with ⟨t, ty, o, nf, hr⟩ | ⟨c, D, dy, gs, rfl, hc, hne, hsub, o, hr⟩
  · refine GB.rc_left (op := opOf ne) sb.room.units0 KX J (ty.looks I ry) nf ?_
    cases ne with
    | false => exact GB.tc_eq KX J o.eq hf (call A (.ref a) y _ _ _ (sb.mono (Nat.le_succ n)) rfl ry hr fun s' H' I' ex => ⟨b, rfl, _, rfl, by simp, H', I', ex⟩)
    | true => exact GB.tc_ne KX J o.eq hf o.ne o.ob (in1_units sb.room.units) (call A.in1 (.ref a) y _ _ _ sb.in1 rfl ry hr fun s' H' I' ex => ⟨b, rfl, _, rfl, by cases b <;> rfl, H', I', ex⟩)
  · cases ry
    obtain ⟨mB, O', _⟩ := ins_get I.hok hc
    obtain ⟨od', J', _⟩ := O'.look
    refine GB.rc_right (op := opOf ne) sb.room.units0 KX J J' hne hsub ?_
    cases ne with
    | false => exact GB.tc_eq KX J' o.eq hf (call A (.ref c) (.ref a) _ _ _ (sb.mono (Nat.le_succ n)) rfl rfl hr fun s' H' I' ex => ⟨b, rfl, _, rfl, by simp, H', I', ex⟩)
    | true => exact GB.tc_ne KX J' o.eq hf o.ne o.ob (in1_units sb.room.units) (call A.in1 (.ref c) (.ref a) _ _ _ sb.in1 rfl rfl hr fun s' H' I' ex => ⟨b, rfl, _, rfl, by cases b <;> rfl, H', I', ex⟩)
/-- from a rich comparison of references to == inside a list or tuple: an object is equal to itself, so D must say so -/
theorem RcB.eqB (h : RcB X n false D) (hr : ∀ x y H b, D x y H b → ∃ a c, x = .ref a ∧ y = .ref c ∧ (a = c → b = true)) : EqB X n D := by
  intro A pins s σ H x y u v b sb I rx ry d
  obtain ⟨a, c, rfl, rfl, hac⟩ := hr _ _ _ _ d
  cases rx
  cases ry
  by_cases hab : a = c
  · subst hab
    rw [hac rfl]
    exact SeqAt.EqAt.same (A := A) (s := s) (.ref a) X.prog X.w X.xe _ ⟨rfl, H, I, Ext.rfl'⟩
  · refine GQ.eqBool_refG hab (wpAny_mono (h A pins s σ H (.ref a) (.ref c) _ _ b sb I rfl rfl d) (fun r s' q => ?_) fun _ _ x => x)
    obtain ⟨hr', q⟩ := q
    exact ⟨b, by rw [hr']; simp, rfl, q⟩
/-- x == y, x != y as an expression -/
def rCmpB (ne : Bool) (D : EqvB) : R2 := fun x y H Q => ∃ b, D x y H b ∧ ∀ H', Ext H H' → Q (.bl (ne != b)) H'
theorem op_cmpB (h : RcB X n ne D) (hr : Room n X.A) : OpR X (compareOp (opOf ne)) (rCmpB ne D) := by
  intro pins s σ H x y v u Q I rx ry hq
  obtain ⟨b, d, q⟩ := hq
  have e : compareOp (opOf ne) v u = richCompare (opOf ne) v u := by cases ne <;> rfl
  rw [e]
  refine wpAny_mono (h X.A pins s σ H x y v u b ⟨hr, rfl⟩ I rx ry d) (fun r s' z => ?_) fun _ _ x => x
  obtain ⟨hr', H', I', e⟩ := z
  subst hr'
  exact ⟨.bl (ne != b), H', I', rfl, q H' e⟩
end
end L2

/-! Own classes: what the text says of a class, C() without __init__, isinstance, fields and constants and methods by the value's own class. -/
namespace L2
open PySem PySem.Spec PyProof.Rows
/-- the facts of an own class -/
structure OCls (K : PySem.W.Frag) (C : Addr) : Prop where
  cl : Cls K C
  ha : PySem.W.findIn K (.ref C) "__class__" = some (some (.builtin "object.__class__"))
  hn : PySem.W.specialIn K (.builtin "object.__class__") "__get__" = some (some (.builtin "getset_descriptor.__get__"))
  tk : PySem.W.takesIn K (.builtin "object.__class__") = some true
  hm : PySem.W.mroIn K C (.type "object") = some true
  ic : PySem.W.isClsIn K C = true
  ty : PySem.W.typeIn K (.ref C) = some (.type "type")
theorem OCls.ins {K : PySem.W.Frag} {C : Addr} (c : OCls K C) {H : Hp} {a dx : Addr} {fs : List (Str × V)} (e : H a = some (.ins C dx fs)) : TyX K H (.ref a) (.ref C) := .base (.ins e c.cl c.ha c.hn c.tk c.hm)
theorem OCls.kit {K : PySem.W.Frag} {C : Addr} (c : OCls K C) {t : Value} {b : Bool} (h : PySem.W.subIn K t (.ref C) = some b) (he : t = .ref C → b = true) : PySem.W.kitOne K t (.ref C) = some b := by
  unfold PySem.W.kitOne
  by_cases e : (t == Value.ref C) = true
  · rw [if_pos e, he (eq_of_beq e)]
  · rw [if_neg e]
    unfold PySem.W.kitCls
    have h1 : (PySem.W.clsIn K C).isSome = true := c.ic
    have h2 : (PySem.W.typeIn K (.ref C) == some (.type "type")) = true := by rw [c.ty]; simp
    show (if ((PySem.W.clsIn K C).isSome && PySem.W.typeIn K (.ref C) == some (.type "type")) = true then PySem.W.subIn K t (.ref C) else none) = some b
    rw [h1, h2]
    exact h
def rIsiC (K : PySem.W.Frag) : List V → Hp → VK → Prop := fun xs H Q => match xs with
  | [x, .ref C] => ∃ t b, TyX K H x t ∧ PySem.W.kitOne K t (.ref C) = some b ∧ Q (.bl b) H
  | [x, .ty n] => ∃ t b, TyX K H x t ∧ PySem.W.kitOne K t (.type n) = some b ∧ Q (.bl b) H
  | _ => False
/-- C() of a class without an __init__ -/
def tMakeN (C : Addr) : TE := fun _ H Q => ∀ x dx, H x = none → H dx = none → dx ≠ x → Q (.ref x) (upd (upd H dx (.own x)) x (.ins C dx []))
structure MkN (K : PySem.W.Frag) (C : Addr) : Prop where
  makes : PySem.W.makesIn K C = true
  init : PySem.W.findIn K (.ref C) "__init__" = some (some (.builtin "object.__init__"))
  kp : PySem.W.keepIn K (.ref C) = true
section
variable {X : Cx} {C : Addr} {x : Str} {p pos : Pos}
theorem cc_isi {K : PySem.W.Frag} (hK : X.K = K := by rfl) : CallR X (.builtin "isinstance") (rIsiC K) := hK ▸ call_isi.weak fun xs H Q h => by
  unfold rIsiC at h
  split at h
  · obtain ⟨t, b, ty, e, q⟩ := h; exact ⟨_, _, t, _, b, rfl, .own _, ty, e, q⟩
  · obtain ⟨t, b, ty, e, q⟩ := h; exact ⟨_, _, t, _, b, rfl, .ty _, ty, e, q⟩
  · exact h.elim
theorem run_makeN {pins : List (Addr × Obj)} {σ : St} {H : Hp} {s : Shared} {Q : VK} (M : MkN X.K C) (I : Inv X pins σ H s) (h : tMakeN C σ H Q) : wpAny (model X.prog X.w) X.A (call (.ref C) []) (EP X pins σ Q) X.xe s := by
  have hq := h (s.heap.objs.size + 1) s.heap.objs.size (I.hok.fresh (Nat.le_succ _)) (I.hok.fresh (Nat.le_refl _)) (Nat.ne_of_lt (Nat.lt_succ_self _))
  have I2 := Inv.made (C := C) I
  refine wpAny_call (make_map0 I.kIn M.makes M.init (fun self => PySem.W.Looks.of_pure (PySem.W.oi_bind self)) ?_)
  have Y := PySem.W.makes_of (M := model X.prog X.w) I.kIn M.makes
  have t1 : PySem.W.Looks (model X.prog X.w) ((s.heap.push PySem.W.emptyDict).push (PySem.W.instObj C s.heap.objs.size)) (typeOf (.ref (s.heap.objs.size + 1))) (.ref C) := by
    refine typeOf_at (o := PySem.W.instObj C s.heap.objs.size) ?_
    have := Heap.get?_push_at (h := s.heap.push PySem.W.emptyDict) (o := PySem.W.instObj C s.heap.objs.size) rfl rfl
    rw [Heap.size_push] at this
    exact this
  have t2 : PySem.W.Looks (model X.prog X.w) ((s.heap.push PySem.W.emptyDict).push (PySem.W.instObj C s.heap.objs.size)) (isInstance (.ref (s.heap.objs.size + 1)) (.type "object")) true := t1.andThen (Y.top.keeps fun b o e => Heap.get?_push_of_some _ (Heap.get?_push_of_some _ e))
  refine codeAny_call_builtin PySem.W.oi_plain PySem.W.entry_oi (@PySem.W.check_slot (model X.prog X.w) _ _ _ "object.__init__" "object" "__init__" (.ref (s.heap.objs.size + 1)) [] [] _ PySem.W.oi_kind PySem.W.oi_split t2 (PySem.W.oi_args (.ref (s.heap.objs.size + 1))) ?_)
  rw [PySem.W.oi_run]
  exact wpAny_pure (And.intro rfl ⟨V.ref (s.heap.objs.size + 1), _, I2, rfl, hq⟩)
theorem pe_makeN (M : MkN X.K C) (hg : Gl X x) (hm : X.mg x = some (.ref C)) (hdb : (x == ("__debug__" : Str)) = false := by decide) : PE X (.Call (.Name x p) [] [] pos) (tMakeN C) := by
  refine ⟨fun pins s σ H Q I h => ?_⟩
  refine wpAny_Call_Name_kw (ld_glob I hg hm ?_ hdb)
  exact PySem.W.callWith_K0 I.kIn M.kp (run_makeN M I h)
end
/-! ### attributes, by the object's own class -/
def tFldC (K : PySem.W.Frag) (ta : TE) (f : Str) : TE := fun σ H Q => ta σ H fun x H1 => match x with
  | .ref a => ∃ C dx fs v, H1 a = some (.ins C dx fs) ∧ Cls K C ∧ NoAttr K C f ∧ fs.lookup f = some v ∧ Q v H1
  | _ => False
def tConC (K : PySem.W.Frag) (ta : TE) (f : Str) : TE := fun σ H Q => ta σ H fun x H1 => match x with
  | .ref a => ∃ C dx fs v u, H1 a = some (.ins C dx fs) ∧ Cls K C ∧ Con K C f v u ∧ fs.lookup f = none ∧ Q v H1
  | _ => False
def sFldC (K : PySem.W.Frag) (ta tv : TE) (f : Str) : TS := fun D σ H => tv σ H fun y H1 => ta σ H1 fun x H2 => match x with
  | .ref a => ∃ C dx fs, H2 a = some (.ins C dx fs) ∧ Cls K C ∧ NoAttr K C f ∧ fs.length < 1000 ∧ D.nx σ (upd H2 a (.ins C dx (putF f y fs)))
  | _ => False
theorem rf_fun {f : Addr → Hp → Prop} {g : V → Hp → Prop} (e : ∀ a H, f a H ↔ g (.ref a) H) : (fun (x : V) (H1 : Hp) => match x with | .ref a => f a H1 | _ => False) = (fun (x : V) (H1 : Hp) => match x with | .ref a => g (.ref a) H1 | _ => False) := by
  funext x H1
  cases x with
  | ref a => exact propext (e a H1)
  | _ => rfl
theorem PE.rfc {X : Cx} {e : Expr} {te : TE} (h : PE X e te) : PE X e (fun σ H Q => te σ H fun x H1 => match x with | .ref a => Q (.ref a) H1 | _ => False) := ⟨fun pins s σ H Q I q => by
  refine thn (h.run pins s σ H _ I q) fun v s1 hv => ?_
  obtain ⟨x, H1, I1, r1, q1⟩ := hv
  cases x with
  | ref k => exact ⟨_, H1, I1, r1, q1⟩
  | _ => exact q1.elim⟩
section
variable {X : Cx} {e o value : Expr} {ta tv : TE} {f : Str} {pos pos' : Pos}
theorem ce_fld {K : PySem.W.Frag} (he : PE X e ta) (hb : attributeBase e f X.env (eval e X.env) = eval e X.env) (hK : X.K = K := by rfl) : PE X (.Attribute e f pos) (tFldC K ta f) := by
  subst hK
  refine (pe_fld he.rfc hb).weak fun σ H Q h => ?_
  have h' : ta σ H fun x H1 => match x with | .ref a => ∃ C dx fs v, H1 a = some (.ins C dx fs) ∧ Cls X.K C ∧ NoAttr X.K C f ∧ fs.lookup f = some v ∧ Q v H1 | _ => False := h
  rw [rf_fun (g := fun x H1 => ∃ a C dx fs v, x = .ref a ∧ H1 a = some (.ins C dx fs) ∧ Cls X.K C ∧ NoAttr X.K C f ∧ fs.lookup f = some v ∧ Q v H1) (fun a H1 => ⟨fun ⟨C, dx, fs, v, q⟩ => ⟨a, C, dx, fs, v, rfl, q⟩, fun ⟨a', C, dx, fs, v, e, q⟩ => by cases e; exact ⟨C, dx, fs, v, q⟩⟩)] at h'
  exact h'
theorem ce_con {K : PySem.W.Frag} (he : PE X e ta) (hb : attributeBase e f X.env (eval e X.env) = eval e X.env) (hK : X.K = K := by rfl) : PE X (.Attribute e f pos) (tConC K ta f) := by
  subst hK
  refine (pe_con he.rfc hb).weak fun σ H Q h => ?_
  have h' : ta σ H fun x H1 => match x with | .ref a => ∃ C dx fs v u, H1 a = some (.ins C dx fs) ∧ Cls X.K C ∧ Con X.K C f v u ∧ fs.lookup f = none ∧ Q v H1 | _ => False := h
  rw [rf_fun (g := fun x H1 => ∃ a C dx fs v u, x = .ref a ∧ H1 a = some (.ins C dx fs) ∧ Cls X.K C ∧ Con X.K C f v u ∧ fs.lookup f = none ∧ Q v H1) (fun a H1 => ⟨fun ⟨C, dx, fs, v, u, q⟩ => ⟨a, C, dx, fs, v, u, rfl, q⟩, fun ⟨a', C, dx, fs, v, u, e, q⟩ => by cases e; exact ⟨C, dx, fs, v, u, q⟩⟩)] at h'
  exact h'
theorem cs_fld {K : PySem.W.Frag} (ha : PE X o ta) (hv : PE X value tv) (hs : swapsWith value (some (.Attribute o f pos')) pos.line X.env = pure false) (hK : X.K = K := by rfl) : PS X (.Assign [.Attribute o f pos'] value pos) (sFldC K ta tv f) := by
  subst hK
  refine (ps_fld ha.rfc hv hs).weak fun D σ H h => ?_
  have h' : tv σ H fun y H1 => ta σ H1 fun x H2 => match x with | .ref a => ∃ C dx fs, H2 a = some (.ins C dx fs) ∧ Cls X.K C ∧ NoAttr X.K C f ∧ fs.length < 1000 ∧ D.nx σ (upd H2 a (.ins C dx (putF f y fs))) | _ => False := h
  have eq : (fun (y : V) (H1 : Hp) => ta σ H1 fun x H2 => match x with | .ref a => ∃ C dx fs, H2 a = some (.ins C dx fs) ∧ Cls X.K C ∧ NoAttr X.K C f ∧ fs.length < 1000 ∧ D.nx σ (upd H2 a (.ins C dx (putF f y fs))) | _ => False)
      = (fun (y : V) (H1 : Hp) => ta σ H1 fun x H2 => match x with | .ref a => (fun (x : V) (H2 : Hp) => ∃ a C dx fs, x = .ref a ∧ H2 a = some (.ins C dx fs) ∧ Cls X.K C ∧ NoAttr X.K C f ∧ fs.length < 1000 ∧ D.nx σ (upd H2 a (.ins C dx (putF f y fs)))) (.ref a) H2 | _ => False) := by
    funext y H1
    rw [rf_fun (g := fun x H2 => ∃ a C dx fs, x = .ref a ∧ H2 a = some (.ins C dx fs) ∧ Cls X.K C ∧ NoAttr X.K C f ∧ fs.length < 1000 ∧ D.nx σ (upd H2 a (.ins C dx (putF f y fs)))) (fun a H1 => ⟨fun ⟨C, dx, fs, q⟩ => ⟨a, C, dx, fs, rfl, q⟩, fun ⟨a', C, dx, fs, e, q⟩ => by cases e; exact ⟨C, dx, fs, q⟩⟩)]
  rw [eq] at h'
  exact h'
end
/-- o.m(..), the object's class one of some: i tells which -/
def tMethC (K : PySem.W.Frag) (C : Addr) (m : Str) (sp : Sp) (dvs : List V) (E : XK) (ta : TE) (t : TA) : TE := fun σ H Q => ta σ H fun x H1 => match x with
  | .ref a => ∃ dx fs, H1 a = some (.ins C dx fs) ∧ fs.lookup m = none ∧ t σ H1 fun vs H2 => sp (.ref a :: vs ++ dvs) H2 Q E
  | _ => False
end L2
namespace L2
open PySem PySem.Spec PyProof.Rows
section
variable {P : Program} {w : World} {K : PySem.W.Frag} {mg : Str → Option Value} {base : Heap}
theorem FunS.binds {x qual : Str} {st : Stmt} {f cda D : Addr} {fd : FuncData} {ps : List Str} (F : FunS K x qual st f cda D fd)
    (h : ∀ (kV doc pm : Value) (an : Option Addr) (ct : Value) (cc : Addr) (us : List Value), us.length = ps.length → bindArgs (PySem.W.ksFn x qual (defArgs st) (defBody st) (defScope st) .none kV doc pm an (.ref cda) ct cc) ⟨us, []⟩ = pure (ps.zip us)) : Binds K fd ps [] := by
  obtain ⟨oc, od, kV, doc, pm, an, ct, osl, cc, cl, cld, csl, rfl, _⟩ := F.ex
  exact .all (h kV doc pm an ct cc)
theorem funS_mk {x qual : Str} {st : Stmt} {f cda D cc : Addr} {oc : Value} {od an : Option Addr} {osl : Array (Option Value)} {kV doc pm ct cl : Value} {cld : Option Addr} {csl : Array (Option Value)}
    (l : K.lookup f = some ⟨oc, od, .func (PySem.W.ksFn x qual (defArgs st) (defBody st) (defScope st) .none kV doc pm an (.ref cda) ct cc), osl⟩)
    (c : PySem.W.codeIn K (.ref cda) qual = true) (hc : K.lookup cc = some ⟨cl, cld, .cell (some (.ref D)), csl⟩) (k : PySem.W.keepIn K (.ref f) = true) :
    FunS K x qual st f cda D (PySem.W.ksFn x qual (defArgs st) (defBody st) (defScope st) .none kV doc pm an (.ref cda) ct cc) := ⟨⟨oc, od, kV, doc, pm, an, ct, osl, cc, cl, cld, csl, rfl, l, c, hc⟩, k⟩
end
end L2

namespace Toy
open PySem L2
def topS (i : Nat) : Stmt := PySem.Challenge.pw_sourcequeue_k11_outcomes.main.body.getD i (.Pass ⟨0, 0, 0, 0⟩)
abbrev s_Outcome_told : Stmt := inClass (topS 1) 1
abbrev N_Outcome_told : List Str := ["self"]
theorem sc_Outcome_told : FnScope N_Outcome_told ["self"] (defScope s_Outcome_told) := ⟨rfl, rfl, rfl, by decide +kernel, rfl, by decide +kernel, by decide +kernel⟩
abbrev s_Outcome_content : Stmt := inClass (topS 1) 2
abbrev N_Outcome_content : List Str := ["self"]
theorem sc_Outcome_content : FnScope N_Outcome_content ["self"] (defScope s_Outcome_content) := ⟨rfl, rfl, rfl, by decide +kernel, rfl, by decide +kernel, by decide +kernel⟩
abbrev s_Outcome_XeqX : Stmt := inClass (topS 1) 3
abbrev N_Outcome_XeqX : List Str := ["self", "other"]
theorem sc_Outcome_XeqX : FnScope N_Outcome_XeqX ["self", "other"] (defScope s_Outcome_XeqX) := ⟨rfl, rfl, rfl, by decide +kernel, rfl, by decide +kernel, by decide +kernel⟩
abbrev s_Placed_XinitX : Stmt := inClass (topS 2) 1
abbrev N_Placed_XinitX : List Str := ["self", "at"]
theorem sc_Placed_XinitX : FnScope N_Placed_XinitX ["self", "at"] (defScope s_Placed_XinitX) := ⟨rfl, rfl, rfl, by decide +kernel, rfl, by decide +kernel, by decide +kernel⟩
abbrev s_Placed_content : Stmt := inClass (topS 2) 2
abbrev N_Placed_content : List Str := ["self"]
theorem sc_Placed_content : FnScope N_Placed_content ["self"] (defScope s_Placed_content) := ⟨rfl, rfl, rfl, by decide +kernel, rfl, by decide +kernel, by decide +kernel⟩
abbrev s_Placed_told : Stmt := inClass (topS 2) 3
abbrev N_Placed_told : List Str := ["self", "__class__"]
theorem sc_Placed_told : NdefX.NScope N_Placed_told ["self"] ["__class__"] (defScope s_Placed_told) := NdefX.nscope_by (by decide +kernel)
abbrev s_Merged_XinitX : Stmt := inClass (topS 3) 1
abbrev N_Merged_XinitX : List Str := ["self", "at"]
theorem sc_Merged_XinitX : FnScope N_Merged_XinitX ["self", "at"] (defScope s_Merged_XinitX) := ⟨rfl, rfl, rfl, by decide +kernel, rfl, by decide +kernel, by decide +kernel⟩
abbrev s_Merged_content : Stmt := inClass (topS 3) 2
abbrev N_Merged_content : List Str := ["self"]
theorem sc_Merged_content : FnScope N_Merged_content ["self"] (defScope s_Merged_content) := ⟨rfl, rfl, rfl, by decide +kernel, rfl, by decide +kernel, by decide +kernel⟩
abbrev s_Merged_told : Stmt := inClass (topS 3) 3
abbrev N_Merged_told : List Str := ["self", "__class__"]
theorem sc_Merged_told : NdefX.NScope N_Merged_told ["self"] ["__class__"] (defScope s_Merged_told) := NdefX.nscope_by (by decide +kernel)
abbrev s_Missed_XinitX : Stmt := inClass (topS 4) 1
abbrev N_Missed_XinitX : List Str := ["self", "at", "line"]
theorem sc_Missed_XinitX : FnScope N_Missed_XinitX ["self", "at", "line"] (defScope s_Missed_XinitX) := ⟨rfl, rfl, rfl, by decide +kernel, rfl, by decide +kernel, by decide +kernel⟩
abbrev s_Missed_content : Stmt := inClass (topS 4) 2
abbrev N_Missed_content : List Str := ["self"]
theorem sc_Missed_content : FnScope N_Missed_content ["self"] (defScope s_Missed_content) := ⟨rfl, rfl, rfl, by decide +kernel, rfl, by decide +kernel, by decide +kernel⟩
abbrev s_Missed_told : Stmt := inClass (topS 4) 3
abbrev N_Missed_told : List Str := ["self", "__class__"]
theorem sc_Missed_told : NdefX.NScope N_Missed_told ["self"] ["__class__"] (defScope s_Missed_told) := NdefX.nscope_by (by decide +kernel)
abbrev s_law_source : Stmt := topS 6
abbrev N_law_source : List Str := ["_law_script", "_law_index", "_law_cell"]
theorem sc_law_source : FnScope N_law_source ["_law_script", "_law_index"] (defScope s_law_source) := ⟨rfl, rfl, rfl, by decide +kernel, rfl, by decide +kernel, by decide +kernel⟩
abbrev s_law_draw : Stmt := topS 7
abbrev N_law_draw : List Str := ["_law_source_here", "_law_bound", "_law_digit", "_law_mixed"]
theorem sc_law_draw : FnScope N_law_draw ["_law_source_here", "_law_bound"] (defScope s_law_draw) := ⟨rfl, rfl, rfl, by decide +kernel, rfl, by decide +kernel, by decide +kernel⟩
abbrev s_law : Stmt := topS 9
abbrev N_law : List Str := ["_law_script", "_law_index", "_law_source_here", "_law_at", "_law_line", "_law_made", "_law_outcome", "_law_first", "_law_second", "_law_again"]
theorem sc_law : FnScope N_law ["_law_script"] (defScope s_law) := ⟨rfl, rfl, rfl, by decide +kernel, rfl, by decide +kernel, by decide +kernel⟩
structure Ad where
  c_Outcome : Addr
  c_Placed : Addr
  c_Merged : Addr
  c_Missed : Addr
  a_Outcome_told : Addr
  d_Outcome_told : FuncData
  a_Outcome_content : Addr
  d_Outcome_content : FuncData
  a_Outcome_XeqX : Addr
  d_Outcome_XeqX : FuncData
  a_Placed_XinitX : Addr
  d_Placed_XinitX : FuncData
  a_Placed_content : Addr
  d_Placed_content : FuncData
  a_Placed_told : Addr
  d_Placed_told : FuncData
  cd_Placed_told : Addr
  a_Merged_XinitX : Addr
  d_Merged_XinitX : FuncData
  a_Merged_content : Addr
  d_Merged_content : FuncData
  a_Merged_told : Addr
  d_Merged_told : FuncData
  cd_Merged_told : Addr
  a_Missed_XinitX : Addr
  d_Missed_XinitX : FuncData
  a_Missed_content : Addr
  d_Missed_content : FuncData
  a_Missed_told : Addr
  d_Missed_told : FuncData
  cd_Missed_told : Addr
  a_law_source : Addr
  d_law_source : FuncData
  a_law_draw : Addr
  d_law_draw : FuncData
  a_law : Addr
  d_law : FuncData
structure Txt (P : Program) (K : PySem.W.Frag) (mg : Str → Option Value) (ad : Ad) : Prop where
  n_isinstance : mg "isinstance" = none
  n_len : mg "len" = none
  n_max : mg "max" = none
  n_min : mg "min" = none
  n_range : mg "range" = none
  n_str : mg "str" = none
  hnx : PySem.W.specialIn K (.builtin "object.__class__") "__get__" = some (some (.builtin "getset_descriptor.__get__"))
  tkx : PySem.W.takesIn K (.builtin "object.__class__") = some true
  mg_Outcome : mg "Outcome" = some (.ref ad.c_Outcome)
  cl_Outcome : OCls K ad.c_Outcome
  mn_Outcome : MkN K ad.c_Outcome
  me_Outcome_told : Meth K ad.c_Outcome "told" ad.a_Outcome_told
  me_Outcome_content : Meth K ad.c_Outcome "content" ad.a_Outcome_content
  me_Outcome_XeqX : Meth K ad.c_Outcome "__eq__" ad.a_Outcome_XeqX
  co_Outcome_KIND : ∃ u, Con K ad.c_Outcome "KIND" (.str "none") u
  mg_Placed : mg "Placed" = some (.ref ad.c_Placed)
  cl_Placed : OCls K ad.c_Placed
  mk_Placed : Mk K ad.c_Placed ad.a_Placed_XinitX
  na_Placed_at : NoAttr K ad.c_Placed "at"
  me_Placed_told : Meth K ad.c_Placed "told" ad.a_Placed_told
  me_Placed_content : Meth K ad.c_Placed "content" ad.a_Placed_content
  me_Placed_XeqX : Meth K ad.c_Placed "__eq__" ad.a_Outcome_XeqX
  me_Placed_XinitX : Meth K ad.c_Placed "__init__" ad.a_Placed_XinitX
  co_Placed_KIND : ∃ u, Con K ad.c_Placed "KIND" (.str "placed") u
  mg_Merged : mg "Merged" = some (.ref ad.c_Merged)
  cl_Merged : OCls K ad.c_Merged
  mk_Merged : Mk K ad.c_Merged ad.a_Merged_XinitX
  na_Merged_at : NoAttr K ad.c_Merged "at"
  me_Merged_told : Meth K ad.c_Merged "told" ad.a_Merged_told
  me_Merged_content : Meth K ad.c_Merged "content" ad.a_Merged_content
  me_Merged_XeqX : Meth K ad.c_Merged "__eq__" ad.a_Outcome_XeqX
  me_Merged_XinitX : Meth K ad.c_Merged "__init__" ad.a_Merged_XinitX
  co_Merged_KIND : ∃ u, Con K ad.c_Merged "KIND" (.str "merged") u
  mg_Missed : mg "Missed" = some (.ref ad.c_Missed)
  cl_Missed : OCls K ad.c_Missed
  mk_Missed : Mk K ad.c_Missed ad.a_Missed_XinitX
  na_Missed_at : NoAttr K ad.c_Missed "at"
  na_Missed_line : NoAttr K ad.c_Missed "line"
  me_Missed_told : Meth K ad.c_Missed "told" ad.a_Missed_told
  me_Missed_content : Meth K ad.c_Missed "content" ad.a_Missed_content
  me_Missed_XeqX : Meth K ad.c_Missed "__eq__" ad.a_Outcome_XeqX
  me_Missed_XinitX : Meth K ad.c_Missed "__init__" ad.a_Missed_XinitX
  co_Missed_KIND : ∃ u, Con K ad.c_Missed "KIND" (.str "missed") u
  f_Outcome_told : Fun K "told" "Outcome.told" s_Outcome_told ad.a_Outcome_told ad.d_Outcome_told
  fn_Outcome_told : PySem.W.isFn K (.ref ad.a_Outcome_told) = true
  fi_Outcome_told : PySem.W.fnIn K ad.a_Outcome_told = true
  k_Outcome_told : PySem.W.keepIn K (.ref ad.a_Outcome_told) = true
  b_Outcome_told : Binds K ad.d_Outcome_told ["self"] []
  f_Outcome_content : Fun K "content" "Outcome.content" s_Outcome_content ad.a_Outcome_content ad.d_Outcome_content
  fn_Outcome_content : PySem.W.isFn K (.ref ad.a_Outcome_content) = true
  fi_Outcome_content : PySem.W.fnIn K ad.a_Outcome_content = true
  k_Outcome_content : PySem.W.keepIn K (.ref ad.a_Outcome_content) = true
  b_Outcome_content : Binds K ad.d_Outcome_content ["self"] []
  f_Outcome_XeqX : Fun K "__eq__" "Outcome.__eq__" s_Outcome_XeqX ad.a_Outcome_XeqX ad.d_Outcome_XeqX
  fn_Outcome_XeqX : PySem.W.isFn K (.ref ad.a_Outcome_XeqX) = true
  fi_Outcome_XeqX : PySem.W.fnIn K ad.a_Outcome_XeqX = true
  k_Outcome_XeqX : PySem.W.keepIn K (.ref ad.a_Outcome_XeqX) = true
  b_Outcome_XeqX : Binds K ad.d_Outcome_XeqX ["self", "other"] []
  f_Placed_XinitX : Fun K "__init__" "Placed.__init__" s_Placed_XinitX ad.a_Placed_XinitX ad.d_Placed_XinitX
  fn_Placed_XinitX : PySem.W.isFn K (.ref ad.a_Placed_XinitX) = true
  fi_Placed_XinitX : PySem.W.fnIn K ad.a_Placed_XinitX = true
  k_Placed_XinitX : PySem.W.keepIn K (.ref ad.a_Placed_XinitX) = true
  b_Placed_XinitX : Binds K ad.d_Placed_XinitX ["self", "at"] []
  f_Placed_content : Fun K "content" "Placed.content" s_Placed_content ad.a_Placed_content ad.d_Placed_content
  fn_Placed_content : PySem.W.isFn K (.ref ad.a_Placed_content) = true
  fi_Placed_content : PySem.W.fnIn K ad.a_Placed_content = true
  k_Placed_content : PySem.W.keepIn K (.ref ad.a_Placed_content) = true
  b_Placed_content : Binds K ad.d_Placed_content ["self"] []
  f_Placed_told : FunS K "told" "Placed.told" s_Placed_told ad.a_Placed_told ad.cd_Placed_told ad.c_Placed ad.d_Placed_told
  stx_Placed_told : SupTx P K mg ad.a_Placed_told ad.cd_Placed_told ad.c_Placed P.main.file
  fn_Placed_told : PySem.W.isFn K (.ref ad.a_Placed_told) = true
  fi_Placed_told : PySem.W.fnIn K ad.a_Placed_told = true
  k_Placed_told : PySem.W.keepIn K (.ref ad.a_Placed_told) = true
  b_Placed_told : Binds K ad.d_Placed_told ["self"] []
  f_Merged_XinitX : Fun K "__init__" "Merged.__init__" s_Merged_XinitX ad.a_Merged_XinitX ad.d_Merged_XinitX
  fn_Merged_XinitX : PySem.W.isFn K (.ref ad.a_Merged_XinitX) = true
  fi_Merged_XinitX : PySem.W.fnIn K ad.a_Merged_XinitX = true
  k_Merged_XinitX : PySem.W.keepIn K (.ref ad.a_Merged_XinitX) = true
  b_Merged_XinitX : Binds K ad.d_Merged_XinitX ["self", "at"] []
  f_Merged_content : Fun K "content" "Merged.content" s_Merged_content ad.a_Merged_content ad.d_Merged_content
  fn_Merged_content : PySem.W.isFn K (.ref ad.a_Merged_content) = true
  fi_Merged_content : PySem.W.fnIn K ad.a_Merged_content = true
  k_Merged_content : PySem.W.keepIn K (.ref ad.a_Merged_content) = true
  b_Merged_content : Binds K ad.d_Merged_content ["self"] []
  f_Merged_told : FunS K "told" "Merged.told" s_Merged_told ad.a_Merged_told ad.cd_Merged_told ad.c_Merged ad.d_Merged_told
  stx_Merged_told : SupTx P K mg ad.a_Merged_told ad.cd_Merged_told ad.c_Merged P.main.file
  fn_Merged_told : PySem.W.isFn K (.ref ad.a_Merged_told) = true
  fi_Merged_told : PySem.W.fnIn K ad.a_Merged_told = true
  k_Merged_told : PySem.W.keepIn K (.ref ad.a_Merged_told) = true
  b_Merged_told : Binds K ad.d_Merged_told ["self"] []
  f_Missed_XinitX : Fun K "__init__" "Missed.__init__" s_Missed_XinitX ad.a_Missed_XinitX ad.d_Missed_XinitX
  fn_Missed_XinitX : PySem.W.isFn K (.ref ad.a_Missed_XinitX) = true
  fi_Missed_XinitX : PySem.W.fnIn K ad.a_Missed_XinitX = true
  k_Missed_XinitX : PySem.W.keepIn K (.ref ad.a_Missed_XinitX) = true
  b_Missed_XinitX : Binds K ad.d_Missed_XinitX ["self", "at", "line"] []
  f_Missed_content : Fun K "content" "Missed.content" s_Missed_content ad.a_Missed_content ad.d_Missed_content
  fn_Missed_content : PySem.W.isFn K (.ref ad.a_Missed_content) = true
  fi_Missed_content : PySem.W.fnIn K ad.a_Missed_content = true
  k_Missed_content : PySem.W.keepIn K (.ref ad.a_Missed_content) = true
  b_Missed_content : Binds K ad.d_Missed_content ["self"] []
  f_Missed_told : FunS K "told" "Missed.told" s_Missed_told ad.a_Missed_told ad.cd_Missed_told ad.c_Missed ad.d_Missed_told
  stx_Missed_told : SupTx P K mg ad.a_Missed_told ad.cd_Missed_told ad.c_Missed P.main.file
  fn_Missed_told : PySem.W.isFn K (.ref ad.a_Missed_told) = true
  fi_Missed_told : PySem.W.fnIn K ad.a_Missed_told = true
  k_Missed_told : PySem.W.keepIn K (.ref ad.a_Missed_told) = true
  b_Missed_told : Binds K ad.d_Missed_told ["self"] []
  f_law_source : Fun K "_law_source" "_law_source" s_law_source ad.a_law_source ad.d_law_source
  m_law_source : mg "_law_source" = some (.ref ad.a_law_source)
  k_law_source : PySem.W.keepIn K (.ref ad.a_law_source) = true
  b_law_source : Binds K ad.d_law_source ["_law_script", "_law_index"] []
  f_law_draw : Fun K "_law_draw" "_law_draw" s_law_draw ad.a_law_draw ad.d_law_draw
  m_law_draw : mg "_law_draw" = some (.ref ad.a_law_draw)
  k_law_draw : PySem.W.keepIn K (.ref ad.a_law_draw) = true
  b_law_draw : Binds K ad.d_law_draw ["_law_source_here", "_law_bound"] []
  f_law : Fun K "law" "law" s_law ad.a_law ad.d_law
  m_law : mg "law" = some (.ref ad.a_law)
  k_law : PySem.W.keepIn K (.ref ad.a_law) = true
  b_law : Binds K ad.d_law ["_law_script"] []
  ne_Outcome : PySem.W.findIn K (.ref ad.c_Outcome) "__ne__" = some (some (.builtin "object.__ne__"))
  su_Outcome : PySem.W.subIn K (.ref ad.c_Outcome) (.ref ad.c_Outcome) = some true
  ns_Outcome : PySem.W.notFirst K ad.c_Outcome (.type "str") = true
  nf_Outcome_Outcome : PySem.W.notFirst K ad.c_Outcome (.ref ad.c_Outcome) = true
  ne_Placed : PySem.W.findIn K (.ref ad.c_Placed) "__ne__" = some (some (.builtin "object.__ne__"))
  su_Placed : PySem.W.subIn K (.ref ad.c_Placed) (.ref ad.c_Outcome) = some true
  ns_Placed : PySem.W.notFirst K ad.c_Placed (.type "str") = true
  sp_Placed : PySem.W.ks_superIn K ad.c_Placed ad.c_Placed "told" = some (some (.ref ad.a_Outcome_told))
  mr_Placed : PySem.W.mroIn K ad.c_Placed (.ref ad.c_Placed) = some true
  nq_Placed : ad.c_Placed ≠ ad.c_Outcome
  nf_Placed_Outcome : PySem.W.notFirst K ad.c_Placed (.ref ad.c_Outcome) = true
  nf_Placed_Placed : PySem.W.notFirst K ad.c_Placed (.ref ad.c_Placed) = true
  nf_Placed_Merged : PySem.W.notFirst K ad.c_Placed (.ref ad.c_Merged) = true
  nf_Placed_Missed : PySem.W.notFirst K ad.c_Placed (.ref ad.c_Missed) = true
  ne_Merged : PySem.W.findIn K (.ref ad.c_Merged) "__ne__" = some (some (.builtin "object.__ne__"))
  su_Merged : PySem.W.subIn K (.ref ad.c_Merged) (.ref ad.c_Outcome) = some true
  ns_Merged : PySem.W.notFirst K ad.c_Merged (.type "str") = true
  sp_Merged : PySem.W.ks_superIn K ad.c_Merged ad.c_Merged "told" = some (some (.ref ad.a_Outcome_told))
  mr_Merged : PySem.W.mroIn K ad.c_Merged (.ref ad.c_Merged) = some true
  nq_Merged : ad.c_Merged ≠ ad.c_Outcome
  nf_Merged_Outcome : PySem.W.notFirst K ad.c_Merged (.ref ad.c_Outcome) = true
  nf_Merged_Placed : PySem.W.notFirst K ad.c_Merged (.ref ad.c_Placed) = true
  nf_Merged_Merged : PySem.W.notFirst K ad.c_Merged (.ref ad.c_Merged) = true
  nf_Merged_Missed : PySem.W.notFirst K ad.c_Merged (.ref ad.c_Missed) = true
  ne_Missed : PySem.W.findIn K (.ref ad.c_Missed) "__ne__" = some (some (.builtin "object.__ne__"))
  su_Missed : PySem.W.subIn K (.ref ad.c_Missed) (.ref ad.c_Outcome) = some true
  ns_Missed : PySem.W.notFirst K ad.c_Missed (.type "str") = true
  sp_Missed : PySem.W.ks_superIn K ad.c_Missed ad.c_Missed "told" = some (some (.ref ad.a_Outcome_told))
  mr_Missed : PySem.W.mroIn K ad.c_Missed (.ref ad.c_Missed) = some true
  nq_Missed : ad.c_Missed ≠ ad.c_Outcome
  nf_Missed_Outcome : PySem.W.notFirst K ad.c_Missed (.ref ad.c_Outcome) = true
  nf_Missed_Placed : PySem.W.notFirst K ad.c_Missed (.ref ad.c_Placed) = true
  nf_Missed_Merged : PySem.W.notFirst K ad.c_Missed (.ref ad.c_Merged) = true
  nf_Missed_Missed : PySem.W.notFirst K ad.c_Missed (.ref ad.c_Missed) = true
  ss : PySem.W.subIn K (.type "str") (.ref ad.c_Outcome) = some false
local macro_rules | `(tactic| tm_at "w") => `(tactic| (conv => whnf))
local macro_rules | `(tactic| tm_at "fr") => `(tactic| first | assumption | exact upd_none (by assumption) | exact upd_none (upd_none (by assumption)) | exact upd_none (upd_none (upd_none (by assumption))) | exact upd_none (upd_none (upd_none (upd_none (by assumption)))))
local macro_rules | `(tactic| tm_at "ne") => `(tactic| first | assumption | (apply Ne.symm; assumption) | exact upd_none_ne (by assumption) | exact (upd_none_ne (by assumption)).symm | exact upd_none_ne (upd_none (by assumption)) | exact (upd_none_ne (upd_none (by assumption))).symm | exact upd_none_ne (upd_none (upd_none (by assumption))) | exact (upd_none_ne (upd_none (upd_none (by assumption)))).symm)
local macro_rules | `(tactic| tm_at "heap") => `(tactic| first | assumption | exact upd_same | (refine upd_new ?_ (by tm_at "fr"); tm_at "heap") | (refine upd_oth (by tm_at "ne") ?_; tm_at "heap") | (refine SameB.get (by assumption) (by tm_at "ne") ?_; tm_at "heap") | (refine Same.get (by assumption) ?_; tm_at "heap"))
local macro_rules | `(tactic| tm_at "sq") => `(tactic| first | assumption | exact SqL.of (by tm_at "heap") | exact SqT.of (by tm_at "heap"))
local macro_rules | `(tactic| tm_at "ix") => `(tactic| (conv => whnf); first | refine ⟨_, _, .inl (by tm_at "sq"), rfl, ?_⟩ | refine ⟨_, _, .inr (by tm_at "sq"), rfl, ?_⟩)
local macro_rules | `(tactic| tm_at "sb") => `(tactic| first | assumption | exact SameB.refl | (refine SameB.ws ?_; tm_at "sb") | (refine SameB.wr ?_ (by tm_at "fr"); tm_at "sb") | (refine SameB.trans ?_ (by assumption); tm_at "sb"))
section
variable {P : Program} {w : World} {K : PySem.W.Frag} {mg : Str → Option Value} {base : Heap} {ad : Ad}
theorem ok_law_draw (T : Txt P K mg ad) : FnOk P w K mg base CX0 1 ad.a_law_draw ad.d_law_draw ["_law_source_here", "_law_bound"] spDraw := by
  refine T.f_law_draw.ok sc_law_draw (fun vs H Q E h => ?_) (fun cdv A outer s H vs Q E hr h => ?_)
  · obtain ⟨s, n, k, xs, rfl, _⟩ := h; rfl
  · obtain ⟨s, n, k, xs, rfl, hs, ⟨a, b, c, rfl, ha, hb, hb2, hc, hc2⟩, hk, hn, hn2, q⟩ := h
    refine ⟨_, pss_cons (cs_if (ct_cmp oc_gt (pe_ix (ic_seq (K := K)) (cv 0) pe_int (fun _ _ => rfl)) pe_int (nomark _))
        (pss_cons (ps_set (i := 2) sc_law_draw.nd rfl (by first | exact Or.inl rfl | exact Or.inr rfl) (pe_op oc_mod (pe_ix (ic_seq (K := K)) (cv 0) pe_int (fun _ _ => rfl)) (cv 1)))
        (pss_cons (ps_asg (pe_op oc_div (pe_ix (ic_seq (K := K)) (cv 0) pe_int (fun _ _ => rfl)) (cv 1)) (pg_sub (cv 0) pe_int set_c))
        (pss_one (ps_ret (cv 2)))))
        pss_nil)
      (pss_cons (ps_asg (pe_op (oc_add (K := K)) (pe_ix (ic_seq (K := K)) (cv 0) pe_int (fun _ _ => rfl)) pe_int) (pg_sub (cv 0) pe_int set_c))
      (pss_cons (ps_set (i := 3) sc_law_draw.nd rfl (by first | exact Or.inl rfl | exact Or.inr rfl) (pe_op oc_mod (pe_op oc_pow (pe_op (oc_add (K := K)) (pe_ix (ic_seq (K := K)) (cv 0) pe_int (fun _ _ => rfl)) (pe_op oc_mul pe_int (pe_ix (ic_seq (K := K)) (cv 0) pe_int (fun _ _ => rfl)))) pe_int) (pe_op (oc_add (K := K)) (pe_op oc_pow pe_int pe_int) pe_int)))
      (pss_cons (ps_set (i := 3) sc_law_draw.nd rfl (by first | exact Or.inl rfl | exact Or.inr rfl) (pe_op oc_mod (pe_op oc_pow (pe_op (oc_add (K := K)) (cv 3) (pe_op oc_mul pe_int (pe_ix (ic_seq (K := K)) (cv 0) pe_int (fun _ _ => rfl)))) pe_int) (pe_op (oc_add (K := K)) (pe_op oc_pow pe_int pe_int) pe_int)))
      (pss_one (ps_ret (pe_op oc_mod (pe_op oc_div (cv 3) pe_int) (cv 1))))))), ?_⟩
    tm_at "ix"
    refine ⟨fun h => ?_, fun h => ?_⟩
    · have h := of_decide_eq_true h
      tm_at "ix"
      refine ⟨hn, ?_⟩
      tm_at "ix"
      refine ⟨wide_div hn (b := 200) (by omega) (by decide) (by decide), ?_⟩
      tm_at "w"
      refine ⟨_, 0, hs, rfl, ?_⟩
      exact q _ _ (Int.emod_nonneg _ (by omega)) (Int.emod_lt_of_pos _ hn) ⟨a / n, b, c, rfl, Int.ediv_nonneg ha (by omega), hb, hb2, hc, by omega⟩
    · tm_at "ix"
      tm_at "w"
      refine ⟨_, 2, hs, rfl, ?_⟩
      tm_at "ix"
      tm_at "ix"
      refine ⟨.inl (by decide), ?_⟩
      have e1 : (b + 15485863 * (c + 1)).natAbs < 2 ^ 201 := by omega
      refine ⟨pow_bits e1 (by decide) (by decide) (by decide), ?_⟩
      refine ⟨pow_bits (a := 4) (by decide) (by decide) (by decide) (by decide), ?_⟩
      refine ⟨(by show (0 : Int) < 10 ^ 35 + 69; decide), ?_⟩
      have e2 : ∀ m : Int, 0 ≤ m → m < 2 ^ 130 → (m + 32452843 * (c + 1)).natAbs < 2 ^ 201 := by intro m h1 h2; omega
      tm_at "ix"
      refine ⟨.inl (by decide), ?_⟩
      refine ⟨pow_bits (e2 _ (Int.emod_nonneg _ (by decide)) (Int.lt_trans (Int.emod_lt_of_pos _ (by decide)) (by decide))) (by decide) (by decide) (by decide), ?_⟩
      refine ⟨pow_bits (a := 4) (by decide) (by decide) (by decide) (by decide), ?_⟩
      refine ⟨(by show (0 : Int) < 10 ^ 32 + 49; decide), ?_⟩
      refine ⟨wide_div (by decide) (b := 20) (by decide) (by decide) (by decide), ?_⟩
      refine ⟨hn, ?_⟩
      exact q _ _ (Int.emod_nonneg _ (by omega)) (Int.emod_lt_of_pos _ hn) ⟨a, b, c + 1, rfl, ha, hb, hb2, by omega, by omega⟩
theorem ok_law_source (T : Txt P K mg ad) : FnOk P w K mg base CX0 1 ad.a_law_source ad.d_law_source ["_law_script", "_law_index"] (spSource K) := by
  refine T.f_law_source.ok sc_law_source (fun vs H Q E h => ?_) (fun cdv A outer s H vs Q E hr h => ?_)
  · obtain ⟨a, i, ns, rfl, _⟩ := h; rfl
  · obtain ⟨a, i, ns, rfl, hs, hl, hi, hi2, q⟩ := h
    refine ⟨_, pss_cons (ps_set (i := 2) sc_law_source.nd rfl (by first | exact Or.inl rfl | exact Or.inr rfl) pe_int)
      (pss_cons (PS.cut (cs_if (ct_cmp oc_lt (cv 1) (pe_callB (cc_len (K := K)) (by rfl) T.n_len (by decide +kernel) (pa_cons (cv 0) pa_nil)) (nomark _))
        (pss_one (ps_set (i := 2) sc_law_source.nd rfl (by first | exact Or.inl rfl | exact Or.inr rfl) (pe_ix (ic_seq (K := K)) (cv 0) (cv 1) (fun _ _ => rfl))))
        pss_nil))
      (pss_one (ps_ret (pe_lst (pa_cons (pe_callB (cc_max rfl) (by rfl) T.n_max (by decide +kernel) (pa_cons pe_int (pa_cons (pe_op oc_sub (cv 2) (pe_op oc_pow pe_int pe_int)) pa_nil))) (pa_cons (pe_op (oc_add (K := K)) (pe_op oc_mod (cv 2) (pe_op (oc_add (K := K)) (pe_op oc_pow pe_int pe_int) pe_int)) (pe_op oc_mul pe_int (cv 1))) (pa_cons pe_int pa_nil))))))), ?_⟩
    refine ⟨fun σ' H' => ∃ c : Int, σ' = [some (.ref a), some (.int i), some (.int c)] ∧ H' = H, ?_, ?_⟩
    · tm_at "w"
      refine ⟨ns.map V.int, .inl hs, fun h => ?_, fun h => ⟨_, rfl, rfl⟩⟩
      have h := of_decide_eq_true h
      rw [List.length_map] at h
      obtain ⟨j, rfl⟩ := Int.eq_ofNat_of_zero_le hi
      have hj : j < ns.length := by omega
      exact ⟨_, _, .inl hs, atI_nat (by rw [List.getElem?_map, List.getElem?_eq_getElem hj]; rfl), _, rfl, rfl⟩
    · rintro σ' H' ⟨c, rfl, rfl⟩
      refine ⟨pow_bits (a := 4) (by decide) (by decide) (by decide) (by decide), ?_⟩
      refine ⟨pow_bits (a := 4) (by decide) (by decide) (by decide) (by decide), ?_⟩
      refine ⟨(by show (0 : Int) < 10 ^ 37 + 43; decide), ?_⟩
      refine ⟨.inl (by decide), by show 3 ≤ sizeLine; decide, fun p hp => q _ _ hp ?_⟩
      have h1 : 0 ≤ c % (10 ^ 37 + 43) := Int.emod_nonneg _ (by decide)
      have h2 : c % (10 ^ 37 + 43) < 10 ^ 37 + 43 := Int.emod_lt_of_pos _ (by decide)
      exact ⟨_, _, _, rfl, Int.le_max_left _ _, (by show 0 ≤ c % (10 ^ 37 + 43) + 1299709 * i; omega), (by show c % (10 ^ 37 + 43) + 1299709 * i < 2 ^ 200; omega), by decide, by decide⟩
end
inductive Oc where
  | base | placed (n : Int) | merged (n : Int) | missed (n l : Int)
  deriving DecidableEq
def Oc.cls (ad : Ad) : Oc → Addr
  | .base => ad.c_Outcome | .placed _ => ad.c_Placed | .merged _ => ad.c_Merged | .missed _ _ => ad.c_Missed
def Oc.fs : Oc → List (Str × V)
  | .base => [] | .placed n => [("at", .int n)] | .merged n => [("at", .int n)] | .missed n l => [("at", .int n), ("line", .int l)]
def Oc.kind : Oc → Str
  | .base => "none" | .placed _ => "placed" | .merged _ => "merged" | .missed _ _ => "missed"
def Oc.content : Oc → List Int
  | .base => [] | .placed n => [n] | .merged n => [n] | .missed n l => [n, l]
def num (n : Int) : Str := Str.ofString (toString n)
def Oc.told : Oc → Str
  | .base => "outcome"
  | .placed n => ("outcome" : Str) ++ ((Str.empty ++ (": placed at " : Str)) ++ num n)
  | .merged n => ("outcome" : Str) ++ ((Str.empty ++ (": merged at " : Str)) ++ num n)
  | .missed n l => ("outcome" : Str) ++ ((((Str.empty ++ (": missed at " : Str)) ++ num n) ++ (" by line " : Str)) ++ num l)
def Oc.small : Oc → Prop
  | .base => True | .placed n => 0 ≤ n ∧ n < 10 ^ 10 | .merged n => 0 ≤ n ∧ n < 10 ^ 10 | .missed n l => 0 ≤ n ∧ n < 10 ^ 10 ∧ 0 ≤ l ∧ l < 10 ^ 10
/-- the outcome o stands at a -/
def OcAt (ad : Ad) (H : Hp) (a : Addr) (o : Oc) : Prop := ∃ dx, H a = some (.ins (o.cls ad) dx o.fs)
theorem OcAt.same {ad : Ad} {H H' : Hp} {a : Addr} {o : Oc} (h : OcAt ad H a o) (e : Same H H') : OcAt ad H' a o := by
  obtain ⟨dx, h⟩ := h; exact ⟨dx, e _ _ h⟩
theorem Oc.ext {o p : Oc} (h : o.kind = p.kind) (g : o.content = p.content) : o = p := by
  cases o <;> cases p <;> first
    | rfl
    | (simp only [Oc.kind] at h; exact absurd h (by decide +kernel))
    | (simp only [Oc.content, List.cons.injEq, and_true] at g; rw [g])
    | (simp only [Oc.content, List.cons.injEq, and_true] at g; rw [g.1, g.2])
theorem fs_no (o : Oc) {m : Str} (h1 : m ≠ "at") (h2 : m ≠ "line") : o.fs.lookup m = none := by
  have e1 : (m == ("at" : Str)) = false := by simpa using h1
  have e2 : (m == ("line" : Str)) = false := by simpa using h2
  cases o <;> simp only [Oc.fs, List.lookup_cons, List.lookup_nil, e1, e2]
def spInit1 (C : Addr) : Sp := fun vs H Q _ => ∃ (x dx : Addr) (n : Int), vs = [.ref x, .int n] ∧ H x = some (.ins C dx []) ∧ ∀ H', SameB x H H' → H' x = some (.ins C dx [("at", .int n)]) → Q .non H'
def spInit2 (C : Addr) : Sp := fun vs H Q _ => ∃ (x dx : Addr) (n l : Int), vs = [.ref x, .int n, .int l] ∧ H x = some (.ins C dx []) ∧ ∀ H', SameB x H H' → H' x = some (.ins C dx [("at", .int n), ("line", .int l)]) → Q .non H'
def spTold0 : Sp := fun vs H Q _ => ∃ a, vs = [.ref a] ∧ Q (.str "outcome") H
def spTold (ad : Ad) (sel : Oc → Prop) : Sp := fun vs H Q _ => ∃ a o, vs = [.ref a] ∧ OcAt ad H a o ∧ sel o ∧ o.small ∧ Q (.str o.told) H
def spCont0 : Sp := fun vs H Q _ => ∃ a, vs = [.ref a] ∧ ∀ p, H p = none → Q (.ref p) (upd H p (.tup []))
def spCont (ad : Ad) (sel : Oc → Prop) : Sp := fun vs H Q _ => ∃ a o, vs = [.ref a] ∧ OcAt ad H a o ∧ sel o ∧ ∀ p, H p = none → Q (.ref p) (upd H p (.tup (o.content.map V.int)))
abbrev isPl (o : Oc) : Prop := ∃ n, o = .placed n
abbrev isMe (o : Oc) : Prop := ∃ n, o = .merged n
abbrev isMi (o : Oc) : Prop := ∃ n l, o = .missed n l
section
variable {P : Program} {w : World} {K : PySem.W.Frag} {mg : Str → Option Value} {base : Heap} {ad : Ad}
theorem ok_Outcome_told (T : Txt P K mg ad) : FnOk P w K mg base CX0 1 ad.a_Outcome_told ad.d_Outcome_told ["self"] spTold0 := by
  refine T.f_Outcome_told.ok sc_Outcome_told (fun vs H Q E h => ?_) (fun cdv A outer s H vs Q E hr h => ?_)
  · obtain ⟨a, rfl, _⟩ := h; rfl
  · obtain ⟨a, rfl, q⟩ := h
    exact ⟨_, pss_one (ps_ret pe_str), q⟩
theorem ok_Outcome_content (T : Txt P K mg ad) : FnOk P w K mg base CX0 1 ad.a_Outcome_content ad.d_Outcome_content ["self"] spCont0 := by
  refine T.f_Outcome_content.ok sc_Outcome_content (fun vs H Q E h => ?_) (fun cdv A outer s H vs Q E hr h => ?_)
  · obtain ⟨a, rfl, _⟩ := h; rfl
  · obtain ⟨a, rfl, q⟩ := h
    exact ⟨_, pss_one (ps_ret (pe_tup pa_nil)), Nat.zero_le _, q⟩
theorem ok_Placed_XinitX (T : Txt P K mg ad) : FnOk P w K mg base CX0 1 ad.a_Placed_XinitX ad.d_Placed_XinitX ["self", "at"] (spInit1 ad.c_Placed) := by
  refine T.f_Placed_XinitX.ok sc_Placed_XinitX (fun vs H Q E h => ?_) (fun cdv A outer s H vs Q E hr h => ?_)
  · obtain ⟨x, dx, n, rfl, _⟩ := h; rfl
  · obtain ⟨x, dx, n, rfl, hx, q⟩ := h
    refine ⟨_, pss_one (cs_fld (K := K) (cv 0) (cv 1) rfl), ?_⟩
    exact ⟨_, dx, [], hx, T.cl_Placed.cl, T.na_Placed_at, by show 0 < 1000; decide, q _ SameB.at upd_same⟩
theorem ok_Merged_XinitX (T : Txt P K mg ad) : FnOk P w K mg base CX0 1 ad.a_Merged_XinitX ad.d_Merged_XinitX ["self", "at"] (spInit1 ad.c_Merged) := by
  refine T.f_Merged_XinitX.ok sc_Merged_XinitX (fun vs H Q E h => ?_) (fun cdv A outer s H vs Q E hr h => ?_)
  · obtain ⟨x, dx, n, rfl, _⟩ := h; rfl
  · obtain ⟨x, dx, n, rfl, hx, q⟩ := h
    refine ⟨_, pss_one (cs_fld (K := K) (cv 0) (cv 1) rfl), ?_⟩
    exact ⟨_, dx, [], hx, T.cl_Merged.cl, T.na_Merged_at, by show 0 < 1000; decide, q _ SameB.at upd_same⟩
theorem ok_Missed_XinitX (T : Txt P K mg ad) : FnOk P w K mg base CX0 1 ad.a_Missed_XinitX ad.d_Missed_XinitX ["self", "at", "line"] (spInit2 ad.c_Missed) := by
  refine T.f_Missed_XinitX.ok sc_Missed_XinitX (fun vs H Q E h => ?_) (fun cdv A outer s H vs Q E hr h => ?_)
  · obtain ⟨x, dx, n, l, rfl, _⟩ := h; rfl
  · obtain ⟨x, dx, n, l, rfl, hx, q⟩ := h
    refine ⟨_, pss_cons (cs_fld (K := K) (cv 0) (cv 1) rfl)
      (pss_one (cs_fld (K := K) (cv 0) (cv 2) rfl)), ?_⟩
    refine ⟨_, dx, [], hx, T.cl_Missed.cl, T.na_Missed_at, by show 0 < 1000; decide, ?_⟩
    refine ⟨_, dx, _, upd_same, T.cl_Missed.cl, T.na_Missed_line, by show 1 < 1000; decide, q _ (SameB.ws SameB.at) ?_⟩
    rw [upd_same]
    have e : ¬ (("at" : Str) = "line") := by decide +kernel
    show some (HO.ins _ _ (if ("at" : Str) = "line" then _ else (("at" : Str), V.int n) :: putF "line" (V.int l) [])) = _
    rw [if_neg e]; rfl
theorem ok_Placed_content (T : Txt P K mg ad) : FnOk P w K mg base CX0 1 ad.a_Placed_content ad.d_Placed_content ["self"] (spCont ad isPl) := by
  refine T.f_Placed_content.ok sc_Placed_content (fun vs H Q E h => ?_) (fun cdv A outer s H vs Q E hr h => ?_)
  · obtain ⟨a, o, rfl, _⟩ := h; rfl
  · obtain ⟨a, o, rfl, ⟨dx, ha⟩, ⟨n, rfl⟩, q⟩ := h
    refine ⟨_, pss_one (ps_ret (pe_tup (pa_cons (ce_fld (K := K) (cv 0) rfl) pa_nil))), ?_⟩
    exact ⟨_, dx, _, _, ha, T.cl_Placed.cl, T.na_Placed_at, by rw [Oc.fs, List.lookup_cons, beq_self_eq_true], by show 1 ≤ sizeLine; decide, q⟩
theorem ok_Merged_content (T : Txt P K mg ad) : FnOk P w K mg base CX0 1 ad.a_Merged_content ad.d_Merged_content ["self"] (spCont ad isMe) := by
  refine T.f_Merged_content.ok sc_Merged_content (fun vs H Q E h => ?_) (fun cdv A outer s H vs Q E hr h => ?_)
  · obtain ⟨a, o, rfl, _⟩ := h; rfl
  · obtain ⟨a, o, rfl, ⟨dx, ha⟩, ⟨n, rfl⟩, q⟩ := h
    refine ⟨_, pss_one (ps_ret (pe_tup (pa_cons (ce_fld (K := K) (cv 0) rfl) pa_nil))), ?_⟩
    exact ⟨_, dx, _, _, ha, T.cl_Merged.cl, T.na_Merged_at, by rw [Oc.fs, List.lookup_cons, beq_self_eq_true], by show 1 ≤ sizeLine; decide, q⟩
theorem line_ne : (("line" : Str) == "at") = false := by decide +kernel
theorem ok_Missed_content (T : Txt P K mg ad) : FnOk P w K mg base CX0 1 ad.a_Missed_content ad.d_Missed_content ["self"] (spCont ad isMi) := by
  refine T.f_Missed_content.ok sc_Missed_content (fun vs H Q E h => ?_) (fun cdv A outer s H vs Q E hr h => ?_)
  · obtain ⟨a, o, rfl, _⟩ := h; rfl
  · obtain ⟨a, o, rfl, ⟨dx, ha⟩, ⟨n, l, rfl⟩, q⟩ := h
    refine ⟨_, pss_one (ps_ret (pe_tup (pa_cons (ce_fld (K := K) (cv 0) rfl) (pa_cons (ce_fld (K := K) (cv 0) rfl) pa_nil)))), ?_⟩
    exact ⟨_, dx, _, _, ha, T.cl_Missed.cl, T.na_Missed_at, by rw [Oc.fs, List.lookup_cons, beq_self_eq_true], _, dx, _, _, ha, T.cl_Missed.cl, T.na_Missed_line, by rw [Oc.fs, List.lookup_cons, line_ne, List.lookup_cons, beq_self_eq_true], by show 2 ≤ sizeLine; decide, q⟩
theorem num_len {n : Int} (h0 : 0 ≤ n) (h1 : n < 10 ^ 10) : (num n).length ≤ 10 := str_len_num h0 (by decide) h1
theorem num_log {n : Int} (h0 : 0 ≤ n) (h1 : n < 10 ^ 10) : n.natAbs.log2 < 1920 := log2_small (a := 64) (by omega) (by decide) (by decide)
theorem ok_Placed_told (T : Txt P K mg ad) : FnOk P w K mg base CX0 2 ad.a_Placed_told ad.d_Placed_told ["self"] (spTold ad isPl) := by
  refine T.f_Placed_told.ok sc_Placed_told (fun vs H Q E h => ?_) (fun cc oc od osl A outer s H vs Q E lk hpar hr h => ?_)
  · obtain ⟨a, o, rfl, _⟩ := h; rfl
  · obtain ⟨a, o, rfl, ⟨dx, ha⟩, ⟨n, rfl⟩, ⟨h0, h1⟩, q⟩ := h
    have l1 := num_len h0 h1
    refine ⟨_, pssa_one (psa_ret (pea_op (oc_add (K := K)) (pea_super0 (ar := argOf s_Placed_told) T.stx_Placed_told rfl rfl (by decide) rfl lk (by rw [hpar]; rfl) rfl rfl (by first | exact Or.inl rfl | exact Or.inr (Or.inl rfl)) (by decide) (j := 1) rfl (ok_Outcome_told T) (hr.mono (by decide)) T.b_Outcome_told .nil pass0 T.fn_Outcome_told T.fi_Outcome_told) (pe_joined (.cons pe_str (.cons (pe_fmt (ce_fld (K := K) (cv 0) rfl)) .nil))))), ?_⟩
    refine ⟨a, _, dx, _, rfl, rfl, ha, ⟨T.mr_Placed, T.sp_Placed⟩, a, rfl, ?_⟩
    tm_at "w"
    refine ⟨_, rfl, by decide, ?_⟩
    refine ⟨_, dx, _, _, ha, T.cl_Placed.cl, T.na_Placed_at, by rw [Oc.fs, List.lookup_cons, beq_self_eq_true], .inr ⟨n, rfl, num_log h0 h1, ?_⟩⟩
    refine ⟨_, rfl, ?_, ?_⟩
    · rw [sizeLine_eq]; simp only [str_len_app]; show 0 + 12 + (num n).length ≤ _; omega
    tm_at "w"
    refine ⟨?_, q⟩
    rw [sizeLine_eq]; simp only [str_len_app]; show 7 + (0 + 12 + (num n).length) ≤ _; omega
end
end Toy

namespace Toy
open PySem L2
local macro_rules | `(tactic| tm_at "w") => `(tactic| (conv => whnf))
local macro_rules | `(tactic| tm_at "fr") => `(tactic| first | assumption | exact upd_none (by assumption) | exact upd_none (upd_none (by assumption)) | exact upd_none (upd_none (upd_none (by assumption))) | exact upd_none (upd_none (upd_none (upd_none (by assumption)))))
local macro_rules | `(tactic| tm_at "ne") => `(tactic| first | assumption | (apply Ne.symm; assumption) | exact upd_none_ne (by assumption) | exact (upd_none_ne (by assumption)).symm | exact upd_none_ne (upd_none (by assumption)) | exact (upd_none_ne (upd_none (by assumption))).symm | exact upd_none_ne (upd_none (upd_none (by assumption))) | exact (upd_none_ne (upd_none (upd_none (by assumption)))).symm)
local macro_rules | `(tactic| tm_at "heap") => `(tactic| first | assumption | exact upd_same | (refine upd_new ?_ (by tm_at "fr"); tm_at "heap") | (refine upd_oth (by tm_at "ne") ?_; tm_at "heap") | (refine SameB.get (by assumption) (by tm_at "ne") ?_; tm_at "heap") | (refine Same.get (by assumption) ?_; tm_at "heap"))
local macro_rules | `(tactic| tm_at "sq") => `(tactic| first | assumption | exact SqL.of (by tm_at "heap") | exact SqT.of (by tm_at "heap"))
local macro_rules | `(tactic| tm_at "ix") => `(tactic| (conv => whnf); first | refine ⟨_, _, .inl (by tm_at "sq"), rfl, ?_⟩ | refine ⟨_, _, .inr (by tm_at "sq"), rfl, ?_⟩)
local macro_rules | `(tactic| tm_at "sb") => `(tactic| first | assumption | exact SameB.refl | (refine SameB.ws ?_; tm_at "sb") | (refine SameB.wr ?_ (by tm_at "fr"); tm_at "sb") | (refine SameB.trans ?_ (by assumption); tm_at "sb"))
section
variable {P : Program} {w : World} {K : PySem.W.Frag} {mg : Str → Option Value} {base : Heap} {ad : Ad}
theorem ok_Merged_told (T : Txt P K mg ad) : FnOk P w K mg base CX0 2 ad.a_Merged_told ad.d_Merged_told ["self"] (spTold ad isMe) := by
  refine T.f_Merged_told.ok sc_Merged_told (fun vs H Q E h => ?_) (fun cc oc od osl A outer s H vs Q E lk hpar hr h => ?_)
  · obtain ⟨a, o, rfl, _⟩ := h; rfl
  · obtain ⟨a, o, rfl, ⟨dx, ha⟩, ⟨n, rfl⟩, ⟨h0, h1⟩, q⟩ := h
    have l1 := num_len h0 h1
    refine ⟨_, pssa_one (psa_ret (pea_op (oc_add (K := K)) (pea_super0 (ar := argOf s_Merged_told) T.stx_Merged_told rfl rfl (by decide) rfl lk (by rw [hpar]; rfl) rfl rfl (by first | exact Or.inl rfl | exact Or.inr (Or.inl rfl)) (by decide) (j := 1) rfl (ok_Outcome_told T) (hr.mono (by decide)) T.b_Outcome_told .nil pass0 T.fn_Outcome_told T.fi_Outcome_told) (pe_joined (.cons pe_str (.cons (pe_fmt (ce_fld (K := K) (cv 0) rfl)) .nil))))), ?_⟩
    refine ⟨a, _, dx, _, rfl, rfl, ha, ⟨T.mr_Merged, T.sp_Merged⟩, a, rfl, ?_⟩
    tm_at "w"
    refine ⟨_, rfl, by decide, ?_⟩
    refine ⟨_, dx, _, _, ha, T.cl_Merged.cl, T.na_Merged_at, by rw [Oc.fs, List.lookup_cons, beq_self_eq_true], .inr ⟨n, rfl, num_log h0 h1, ?_⟩⟩
    refine ⟨_, rfl, ?_, ?_⟩
    · rw [sizeLine_eq]; simp only [str_len_app]; show 0 + 12 + (num n).length ≤ _; omega
    tm_at "w"
    refine ⟨?_, q⟩
    rw [sizeLine_eq]; simp only [str_len_app]; show 7 + (0 + 12 + (num n).length) ≤ _; omega
theorem ok_Missed_told (T : Txt P K mg ad) : FnOk P w K mg base CX0 2 ad.a_Missed_told ad.d_Missed_told ["self"] (spTold ad isMi) := by
  refine T.f_Missed_told.ok sc_Missed_told (fun vs H Q E h => ?_) (fun cc oc od osl A outer s H vs Q E lk hpar hr h => ?_)
  · obtain ⟨a, o, rfl, _⟩ := h; rfl
  · obtain ⟨a, o, rfl, ⟨dx, ha⟩, ⟨n, l, rfl⟩, ⟨h0, h1, h2, h3⟩, q⟩ := h
    have l1 := num_len h0 h1
    have l2 := num_len h2 h3
    refine ⟨_, pssa_one (psa_ret (pea_op (oc_add (K := K)) (pea_super0 (ar := argOf s_Missed_told) T.stx_Missed_told rfl rfl (by decide) rfl lk (by rw [hpar]; rfl) rfl rfl (by first | exact Or.inl rfl | exact Or.inr (Or.inl rfl)) (by decide) (j := 1) rfl (ok_Outcome_told T) (hr.mono (by decide)) T.b_Outcome_told .nil pass0 T.fn_Outcome_told T.fi_Outcome_told) (pe_joined (.cons pe_str (.cons (pe_fmt (ce_fld (K := K) (cv 0) rfl)) (.cons pe_str (.cons (pe_fmt (ce_fld (K := K) (cv 0) rfl)) .nil))))))), ?_⟩
    refine ⟨a, _, dx, _, rfl, rfl, ha, ⟨T.mr_Missed, T.sp_Missed⟩, a, rfl, ?_⟩
    tm_at "w"
    refine ⟨_, rfl, by decide, ?_⟩
    refine ⟨_, dx, _, _, ha, T.cl_Missed.cl, T.na_Missed_at, by rw [Oc.fs, List.lookup_cons, beq_self_eq_true], .inr ⟨n, rfl, num_log h0 h1, ?_⟩⟩
    refine ⟨_, rfl, ?_, ?_⟩
    · rw [sizeLine_eq]; simp only [str_len_app]; show 0 + 12 + (num n).length ≤ _; omega
    tm_at "w"
    refine ⟨_, rfl, ?_, ?_⟩
    · rw [sizeLine_eq]; simp only [str_len_app]; show 0 + 12 + (num n).length + 9 ≤ _; omega
    refine ⟨_, dx, _, _, ha, T.cl_Missed.cl, T.na_Missed_line, by rw [Oc.fs, List.lookup_cons, line_ne, List.lookup_cons, beq_self_eq_true], .inr ⟨l, rfl, num_log h2 h3, ?_⟩⟩
    refine ⟨_, rfl, ?_, ?_⟩
    · rw [sizeLine_eq]; simp only [str_len_app]; show 0 + 12 + (num n).length + 9 + (num l).length ≤ _; omega
    tm_at "w"
    refine ⟨?_, q⟩
    rw [sizeLine_eq]; simp only [str_len_app]; show 7 + (0 + 12 + (num n).length + 9 + (num l).length) ≤ _; omega
/-- what == says -/
def ROc (ad : Ad) : EqvB := fun x y H b => ∃ a o, x = .ref a ∧ OcAt ad H a o ∧ ((∃ c p, y = .ref c ∧ OcAt ad H c p ∧ b = decide (o = p)) ∨ (∃ z, y = .str z ∧ b = false))
theorem Ext.sm {H H' : Hp} (e : Ext H H') : Same H H' := e
theorem monR (ad : Ad) : MonB (ROc ad) := fun x y H H' b e ⟨a, o, hx, ho, d⟩ => ⟨a, o, hx, ho.same e, by
  rcases d with ⟨c, p, hy, hp, hb⟩ | d
  · exact .inl ⟨c, p, hy, hp.same e, hb⟩
  · exact .inr d⟩
theorem ocl (T : Txt P K mg ad) (o : Oc) : OCls K (o.cls ad) := by
  cases o
  · exact T.cl_Outcome
  · exact T.cl_Placed
  · exact T.cl_Merged
  · exact T.cl_Missed
theorem osub (T : Txt P K mg ad) (o : Oc) : PySem.W.subIn K (.ref (o.cls ad)) (.ref ad.c_Outcome) = some true := by
  cases o
  · exact T.su_Outcome
  · exact T.su_Placed
  · exact T.su_Merged
  · exact T.su_Missed
theorem ocon (T : Txt P K mg ad) (o : Oc) : ∃ u, Con K (o.cls ad) "KIND" (.str o.kind) u := by
  cases o
  · exact T.co_Outcome_KIND
  · exact T.co_Placed_KIND
  · exact T.co_Merged_KIND
  · exact T.co_Missed_KIND
theorem kind_ne : ("KIND" : Str) ≠ "at" := by decide +kernel
theorem kind_ne2 : ("KIND" : Str) ≠ "line" := by decide +kernel
theorem cont_ne : ("content" : Str) ≠ "at" := by decide +kernel
theorem cont_ne2 : ("content" : Str) ≠ "line" := by decide +kernel
theorem told_ne : ("told" : Str) ≠ "at" := by decide +kernel
theorem told_ne2 : ("told" : Str) ≠ "line" := by decide +kernel
/-- the four ways of o.content() -/
def tCont (ad : Ad) (ta : TE) : TE := fun σ H Q => tMeth ad.c_Outcome "content" spCont0 [] E0 ta tNil σ H Q ∨ tMeth ad.c_Placed "content" (spCont ad isPl) [] E0 ta tNil σ H Q ∨ tMeth ad.c_Merged "content" (spCont ad isMe) [] E0 ta tNil σ H Q ∨ tMeth ad.c_Missed "content" (spCont ad isMi) [] E0 ta tNil σ H Q
theorem cont_ask {i : Nat} {σ : St} {H : Hp} {Q : VK} {a : Addr} {o : Oc} (e : σ[i]? = some (some (.ref a))) (h : OcAt ad H a o) (q : ∀ p, H p = none → Q (.ref p) (upd H p (.tup (o.content.map V.int)))) : tCont ad (tV i) σ H Q := by
  obtain ⟨dx, ha⟩ := id h
  have ev : ∀ R : V → Hp → Prop, R (.ref a) H → tV i σ H R := fun R r => by unfold tV; rw [e]; exact r
  cases o with
  | base => exact .inl (ev _ ⟨a, dx, _, rfl, ha, fs_no .base cont_ne cont_ne2, a, rfl, q⟩)
  | placed n => exact .inr (.inl (ev _ ⟨a, dx, _, rfl, ha, fs_no (.placed n) cont_ne cont_ne2, a, _, rfl, h, ⟨n, rfl⟩, q⟩))
  | merged n => exact .inr (.inr (.inl (ev _ ⟨a, dx, _, rfl, ha, fs_no (.merged n) cont_ne cont_ne2, a, _, rfl, h, ⟨n, rfl⟩, q⟩)))
  | missed n l => exact .inr (.inr (.inr (ev _ ⟨a, dx, _, rfl, ha, fs_no (.missed n l) cont_ne cont_ne2, a, _, rfl, h, ⟨n, l, rfl⟩, q⟩)))
theorem ok_Outcome_XeqX (T : Txt P K mg ad) : FnOk P w K mg base CX0 2 ad.a_Outcome_XeqX ad.d_Outcome_XeqX ["self", "other"] (spEqB (ROc ad)) := by
  refine T.f_Outcome_XeqX.ok sc_Outcome_XeqX (fun vs H Q E h => ?_) (fun cdv A outer s H vs Q E hr h => ?_)
  · obtain ⟨x, y, b, rfl, _⟩ := h; rfl
  · obtain ⟨x, y, b, rfl, ⟨a, o, rfl, ho, d⟩, q⟩ := h
    refine ⟨_, pss_one (ps_ret (ce_and (pe_callB (cc_isi (K := K)) (by rfl) T.n_isinstance (by decide +kernel) (pa_cons (cv 1) (pa_cons (pe_glob (v := .ref ad.c_Outcome) rfl T.mg_Outcome rfl) pa_nil))) (ce_and (pe_cmpR (oc_eq (K := K) hr.units) (ce_con (K := K) (cv 0) rfl) (ce_con (K := K) (cv 1) rfl) (nomark _)) (pe_one (pe_cmpR (oc_eq (K := K) hr.units) (PE.or (pe_meth0 (cv 0) T.cl_Outcome.cl T.me_Outcome_content (ok_Outcome_content T) (hr.mono (by decide)) T.b_Outcome_content .nil pass0) (PE.or (pe_meth0 (cv 0) T.cl_Placed.cl T.me_Placed_content (ok_Placed_content T) (hr.mono (by decide)) T.b_Placed_content .nil pass0) (PE.or (pe_meth0 (cv 0) T.cl_Merged.cl T.me_Merged_content (ok_Merged_content T) (hr.mono (by decide)) T.b_Merged_content .nil pass0) (pe_meth0 (cv 0) T.cl_Missed.cl T.me_Missed_content (ok_Missed_content T) (hr.mono (by decide)) T.b_Missed_content .nil pass0)))) (PE.or (pe_meth0 (cv 1) T.cl_Outcome.cl T.me_Outcome_content (ok_Outcome_content T) (hr.mono (by decide)) T.b_Outcome_content .nil pass0) (PE.or (pe_meth0 (cv 1) T.cl_Placed.cl T.me_Placed_content (ok_Placed_content T) (hr.mono (by decide)) T.b_Placed_content .nil pass0) (PE.or (pe_meth0 (cv 1) T.cl_Merged.cl T.me_Merged_content (ok_Merged_content T) (hr.mono (by decide)) T.b_Merged_content .nil pass0) (pe_meth0 (cv 1) T.cl_Missed.cl T.me_Missed_content (ok_Missed_content T) (hr.mono (by decide)) T.b_Missed_content .nil pass0)))) (nomark _)))))), ?_⟩
    rcases d with ⟨c, p, rfl, hp, rfl⟩ | ⟨z, rfl, rfl⟩
    · obtain ⟨dx, ha⟩ := id ho
      obtain ⟨dy, hc⟩ := id hp
      tm_at "w"
      refine ⟨_, true, (ocl T p).ins hc, T.cl_Outcome.kit (osub T p) (fun _ => rfl), fun _ => ?_, fun h => (nomatch h)⟩
      obtain ⟨u, hu⟩ := ocon T o
      obtain ⟨u', hu'⟩ := ocon T p
      refine ⟨_, dx, _, _, _, ha, (ocl T o).cl, hu, fs_no o kind_ne kind_ne2, ?_⟩
      refine ⟨_, dy, _, _, _, hc, (ocl T p).cl, hu', fs_no p kind_ne kind_ne2, ?_⟩
      refine ⟨fun h => ?_, fun h => ?_⟩
      · have h := of_decide_eq_true h
        refine cont_ask (ad := ad) (i := 0) rfl ho fun p1 hp1 => ?_
        refine cont_ask (ad := ad) (i := 1) rfl (hp.same (Same.new hp1)) fun p2 hp2 => ?_
        refine .inl ⟨p1, p2, _, _, rfl, rfl, .inr ⟨SqT.of (upd_new upd_same hp2), SqT.of upd_same⟩, flatV_ints _, flatV_ints _, ?_⟩
        rw [eqVs_ints]
        have e : decide (o.content = p.content) = decide (o = p) := by
          by_cases g : o = p
          · rw [decide_eq_true g, decide_eq_true (by rw [g])]
          · rw [decide_eq_false g, decide_eq_false (fun z => g (Oc.ext h z))]
        rw [e]
        exact q _ ((Same.new hp1).trans (Same.new hp2))
      · have h := of_decide_eq_false h
        have := q H (fun _ _ z => z)
        rw [decide_eq_false (fun z => h (by rw [z]))] at this
        exact this
    · tm_at "w"
      exact ⟨_, false, .base (.str z), T.cl_Outcome.kit T.ss (fun h => nomatch h), fun h => (nomatch h), fun _ => q H (fun _ _ z => z)⟩
theorem ownE (T : Txt P K mg ad) (o : Oc) : OwnE K (o.cls ad) ad.a_Outcome_XeqX := by
  cases o
  · exact ⟨T.me_Outcome_XeqX.at_, T.ne_Outcome, T.cl_Outcome.hm⟩
  · exact ⟨T.me_Placed_XeqX.at_, T.ne_Placed, T.cl_Placed.hm⟩
  · exact ⟨T.me_Merged_XeqX.at_, T.ne_Merged, T.cl_Merged.hm⟩
  · exact ⟨T.me_Missed_XeqX.at_, T.ne_Missed, T.cl_Missed.hm⟩
/-- == of two outcomes, of an outcome and a text -/
theorem dOw (T : Txt P K mg ad) {H : Hp} {a c : Addr} {o p : Oc} (h : OcAt ad H a o) (g : OcAt ad H c p) : DOw K ad.a_Outcome_XeqX (ROc ad) (.ref a) (.ref c) H (decide (o = p)) := by
  obtain ⟨dx, ha⟩ := id h
  obtain ⟨dy, hc⟩ := id g
  have rl : ROc ad (.ref a) (.ref c) H (decide (o = p)) := ⟨a, o, rfl, h, .inl ⟨c, p, rfl, g, rfl⟩⟩
  have rr : ROc ad (.ref c) (.ref a) H (decide (o = p)) := ⟨c, p, rfl, g, .inl ⟨a, o, rfl, h, by
    by_cases e : o = p
    · rw [decide_eq_true e, decide_eq_true e.symm]
    · rw [decide_eq_false e, decide_eq_false (Ne.symm e)]⟩⟩
  refine ⟨a, _, dx, _, rfl, ha, ?_⟩
  have left : ∀ (nf : PySem.W.notFirst K (o.cls ad) (.ref (p.cls ad)) = true), (∃ t, TyY H (.ref c) t ∧ OwnE K (o.cls ad) ad.a_Outcome_XeqX ∧ PySem.W.notFirst K (o.cls ad) t = true ∧ ROc ad (.ref a) (.ref c) H (decide (o = p))) := fun nf => ⟨_, .ins hc, ownE T o, nf, rl⟩
  have right : ∀ (ne : p.cls ad ≠ o.cls ad) (mr : PySem.W.mroIn K (p.cls ad) (.ref (o.cls ad)) = some true), (∃ c' D dy gs, V.ref c = .ref c' ∧ H c' = some (.ins D dy gs) ∧ D ≠ o.cls ad ∧ PySem.W.mroIn K D (.ref (o.cls ad)) = some true ∧ OwnE K D ad.a_Outcome_XeqX ∧ ROc ad (.ref c) (.ref a) H (decide (o = p))) :=
    fun ne mr => ⟨c, _, dy, _, rfl, hc, ne, mr, ownE T p, rr⟩
  cases o with
  | base =>
    cases p with
    | base => exact .inl (left T.nf_Outcome_Outcome)
    | placed _ => exact .inr (right T.nq_Placed T.su_Placed)
    | merged _ => exact .inr (right T.nq_Merged T.su_Merged)
    | missed _ _ => exact .inr (right T.nq_Missed T.su_Missed)
  | placed _ =>
    cases p with
    | base => exact .inl (left T.nf_Placed_Outcome)
    | placed _ => exact .inl (left T.nf_Placed_Placed)
    | merged _ => exact .inl (left T.nf_Placed_Merged)
    | missed _ _ => exact .inl (left T.nf_Placed_Missed)
  | merged _ =>
    cases p with
    | base => exact .inl (left T.nf_Merged_Outcome)
    | placed _ => exact .inl (left T.nf_Merged_Placed)
    | merged _ => exact .inl (left T.nf_Merged_Merged)
    | missed _ _ => exact .inl (left T.nf_Merged_Missed)
  | missed _ _ =>
    cases p with
    | base => exact .inl (left T.nf_Missed_Outcome)
    | placed _ => exact .inl (left T.nf_Missed_Placed)
    | merged _ => exact .inl (left T.nf_Missed_Merged)
    | missed _ _ => exact .inl (left T.nf_Missed_Missed)
theorem dOwS (T : Txt P K mg ad) {H : Hp} {a : Addr} {o : Oc} {z : Str} (h : OcAt ad H a o) : DOw K ad.a_Outcome_XeqX (ROc ad) (.ref a) (.str z) H false := by
  obtain ⟨dx, ha⟩ := id h
  refine ⟨a, _, dx, _, rfl, ha, .inl ⟨_, .str z, ownE T o, ?_, a, o, rfl, h, .inr ⟨z, rfl, rfl⟩⟩⟩
  cases o
  · exact T.ns_Outcome
  · exact T.ns_Placed
  · exact T.ns_Merged
  · exact T.ns_Missed
end
end Toy

namespace Toy
open PySem L2
local macro_rules | `(tactic| tm_at "w") => `(tactic| (conv => whnf))
local macro_rules | `(tactic| tm_at "fr") => `(tactic| first | assumption | exact upd_none (by assumption) | exact upd_none (upd_none (by assumption)) | exact upd_none (upd_none (upd_none (by assumption))) | exact upd_none (upd_none (upd_none (upd_none (by assumption)))))
local macro_rules | `(tactic| tm_at "ne") => `(tactic| first | assumption | (apply Ne.symm; assumption) | exact upd_none_ne (by assumption) | exact (upd_none_ne (by assumption)).symm | exact upd_none_ne (upd_none (by assumption)) | exact (upd_none_ne (upd_none (by assumption))).symm | exact upd_none_ne (upd_none (upd_none (by assumption))) | exact (upd_none_ne (upd_none (upd_none (by assumption)))).symm)
local macro_rules | `(tactic| tm_at "heap") => `(tactic| first | assumption | exact upd_same | (refine upd_new ?_ (by tm_at "fr"); tm_at "heap") | (refine upd_oth (by tm_at "ne") ?_; tm_at "heap") | (refine SameB.get (by assumption) (by tm_at "ne") ?_; tm_at "heap") | (refine Same.get (by assumption) ?_; tm_at "heap"))
local macro_rules | `(tactic| tm_at "sq") => `(tactic| first | assumption | exact SqL.of (by tm_at "heap") | exact SqT.of (by tm_at "heap"))
local macro_rules | `(tactic| tm_at "ix") => `(tactic| (conv => whnf); first | refine ⟨_, _, .inl (by tm_at "sq"), rfl, ?_⟩ | refine ⟨_, _, .inr (by tm_at "sq"), rfl, ?_⟩)
local macro_rules | `(tactic| tm_at "sb") => `(tactic| first | assumption | exact SameB.refl | (refine SameB.ws ?_; tm_at "sb") | (refine SameB.wr ?_ (by tm_at "fr"); tm_at "sb") | (refine SameB.trans ?_ (by assumption); tm_at "sb"))
section
variable {X : Cx} {n : Nat} {ne : Bool}
theorem rcB_ownK {K : PySem.W.Frag} {CX : CXT} {f : Addr} {fd : FuncData} {ps : List Str} {R : EqvB} {E : XK} (F : FnOk X.prog X.w X.K X.mg X.base CX n f fd ps (spEqB R)) (hf : PySem.W.isFn X.K (.ref f) = true) (hb : Binds X.K fd ps []) (hx : Passes CX X E) (hK : X.K = K := by rfl) : RcB X (n + 1) ne (DOw K f R) := hK ▸ rcB_own F hf hb hx
end
/-- .. as items of lists -/
def DOr (K : PySem.W.Frag) (ad : Ad) : EqvB := fun x y H b => DOw K ad.a_Outcome_XeqX (ROc ad) x y H b ∧ ∃ a c, x = .ref a ∧ y = .ref c ∧ (a = c → b = true)
theorem monDOr (K : PySem.W.Frag) (ad : Ad) : MonB (DOr K ad) := fun x y H H' b e ⟨h1, h2⟩ => ⟨monB_own (monR ad) x y H H' b e h1, h2⟩
theorem str_assoc (a b c : Str) : (a ++ b) ++ c = a ++ (b ++ c) := by
  obtain ⟨a⟩ := a; obtain ⟨b⟩ := b; obtain ⟨c⟩ := c
  show (⟨(a ++ b) ++ c⟩ : Str) = ⟨a ++ (b ++ c)⟩
  rw [Array.append_assoc]
theorem mk_same {H H' : Hp} {x dx : Addr} {o1 o2 : HO} (hx : H x = none) (hd : H dx = none) (e : SameB x (upd (upd H dx o1) x o2) H') : Same H H' := fun b o h =>
  e b o (ne_of_none h hx) (by rw [upd_ne (ne_of_none h hx), upd_ne (ne_of_none h hd)]; exact h)
theorem mkn_same {H : Hp} {x dx : Addr} {o1 o2 : HO} (hx : H x = none) (hd : H dx = none) : Same H (upd (upd H dx o1) x o2) := fun b o h => by rw [upd_ne (ne_of_none h hx), upd_ne (ne_of_none h hd)]; exact h
def tTold (ad : Ad) (ta : TE) : TE := fun σ H Q => tMeth ad.c_Outcome "told" spTold0 [] E0 ta tNil σ H Q ∨ tMeth ad.c_Placed "told" (spTold ad isPl) [] E0 ta tNil σ H Q ∨ tMeth ad.c_Merged "told" (spTold ad isMe) [] E0 ta tNil σ H Q ∨ tMeth ad.c_Missed "told" (spTold ad isMi) [] E0 ta tNil σ H Q
section
variable {P : Program} {w : World} {K : PySem.W.Frag} {mg : Str → Option Value} {base : Heap} {ad : Ad}
theorem told_ask {ta : TE} {σ : St} {H : Hp} {Q : VK} {a : Addr} {o : Oc} (ev : ∀ R : VK, R (.ref a) H → ta σ H R) (h : OcAt ad H a o) (hs : o.small) (q : Q (.str o.told) H) : tTold ad ta σ H Q := by
  obtain ⟨dx, ha⟩ := id h
  cases o with
  | base => exact .inl (ev _ ⟨a, dx, _, rfl, ha, fs_no .base told_ne told_ne2, a, rfl, q⟩)
  | placed n => exact .inr (.inl (ev _ ⟨a, dx, _, rfl, ha, fs_no (.placed n) told_ne told_ne2, a, _, rfl, h, ⟨n, rfl⟩, hs, q⟩))
  | merged n => exact .inr (.inr (.inl (ev _ ⟨a, dx, _, rfl, ha, fs_no (.merged n) told_ne told_ne2, a, _, rfl, h, ⟨n, rfl⟩, hs, q⟩)))
  | missed n l => exact .inr (.inr (.inr (ev _ ⟨a, dx, _, rfl, ha, fs_no (.missed n l) told_ne told_ne2, a, _, rfl, h, ⟨n, l, rfl⟩, hs, q⟩)))
def osOf (n l : Int) : List Oc := [.base, .placed n, .merged n, .missed n l, .placed (n + 1), .missed n (l + 1), .missed (n + 1) l, .merged (n + 1)]
theorem os_small {n l : Int} (h0 : 0 ≤ n) (h1 : n ≤ 10 ^ 9) (h2 : 0 ≤ l) (h3 : l ≤ 10 ^ 9) : ∀ o ∈ osOf n l, o.small := by
  intro o ho
  simp only [osOf, List.mem_cons, List.not_mem_nil, or_false] at ho
  rcases ho with rfl | rfl | rfl | rfl | rfl | rfl | rfl | rfl <;> simp only [Oc.small] <;> omega
theorem os_eq {n l : Int} {i j : Nat} {o p : Oc} (h : (osOf n l)[i]? = some o) (g : (osOf n l)[j]? = some p) : decide (o = p) = decide (i = j) := by
  have nd : (osOf n l).Nodup := by
    simp only [osOf, List.nodup_cons, List.mem_cons, List.not_mem_nil, or_false, reduceCtorEq, Oc.placed.injEq, Oc.merged.injEq, Oc.missed.injEq, false_or, not_false_eq_true, List.nodup_nil, and_true, true_and]
    omega
  have hi := (List.getElem?_eq_some_iff.mp h).1
  by_cases e : i = j
  · subst e
    rw [h] at g
    rw [decide_eq_true (Option.some.inj g), decide_eq_true rfl]
  · rw [decide_eq_false e, decide_eq_false]
    intro q
    subst q
    exact e ((List.getElem?_inj hi nd).mp (h.trans g.symm))
set_option maxHeartbeats 8000000 in
theorem ok_law (T : Txt P K mg ad) : FnOk P w K mg base CX0 5 ad.a_law ad.d_law ["_law_script"] (spLaw K) := by
  refine T.f_law.ok sc_law (fun vs H Q E h => ?_) (fun cdv A outer s H vs Q E hr h => ?_)
  · obtain ⟨a, ns, rfl, _⟩ := h; rfl
  · obtain ⟨a, ns, rfl, ha, hns, q⟩ := h
    refine ⟨_, pss_cons (ps_for PassesOwn.never rfl (pi_range1 rfl T.n_range (pa_cons (pe_callB (cc_max rfl) (by rfl) T.n_max (by decide +kernel) (pa_cons pe_int (pa_cons (pe_callB (cc_min rfl) (by rfl) T.n_min (by decide +kernel) (pa_cons pe_int (pa_cons (pe_callB (cc_len (K := K)) (by rfl) T.n_len (by decide +kernel) (pa_cons (cv 0) pa_nil)) pa_nil))) pa_nil))) pa_nil)) (pg_name (i := 1) sc_law.nd rfl (by first | exact Or.inl rfl | exact Or.inr rfl))
        (pss_cons (ps_set (i := 2) sc_law.nd rfl (by first | exact Or.inl rfl | exact Or.inr rfl) (pe_call (ok_law_source T) (hr.mono (by decide)) rfl T.m_law_source T.k_law_source T.b_law_source .nil pass0 (pa_cons (cv 0) (pa_cons (cv 1) pa_nil))))
        (pss_cons (ps_par (i := 3) (j := 4) (by rfl) sc_law.nd rfl rfl (by decide) rfl rfl (pa_cons (pe_call (ok_law_draw T) (hr.mono (by decide)) rfl T.m_law_draw T.k_law_draw T.b_law_draw .nil pass0 (pa_cons (cv 2) (pa_cons (pe_ix (ic_seq (K := K)) (pe_lst (pa_cons pe_int (pa_cons (pe_op oc_pow pe_int pe_int) pa_nil))) (pe_call (ok_law_draw T) (hr.mono (by decide)) rfl T.m_law_draw T.k_law_draw T.b_law_draw .nil pass0 (pa_cons (cv 2) (pa_cons pe_int pa_nil))) (fun _ _ => rfl)) pa_nil))) (pa_cons (pe_call (ok_law_draw T) (hr.mono (by decide)) rfl T.m_law_draw T.k_law_draw T.b_law_draw .nil pass0 (pa_cons (cv 2) (pa_cons pe_int pa_nil))) pa_nil)) (by rfl))
        (pss_cons (ps_set (i := 5) sc_law.nd rfl (by first | exact Or.inl rfl | exact Or.inr rfl) (pe_lst (pa_cons (pe_makeN T.mn_Outcome rfl T.mg_Outcome) (pa_cons (pe_make T.mk_Placed (ok_Placed_XinitX T) (hr.mono (by decide)) rfl T.mg_Placed T.b_Placed_XinitX .nil pass0 (pa_cons (cv 3) pa_nil)) (pa_cons (pe_make T.mk_Merged (ok_Merged_XinitX T) (hr.mono (by decide)) rfl T.mg_Merged T.b_Merged_XinitX .nil pass0 (pa_cons (cv 3) pa_nil)) (pa_cons (pe_make T.mk_Missed (ok_Missed_XinitX T) (hr.mono (by decide)) rfl T.mg_Missed T.b_Missed_XinitX .nil pass0 (pa_cons (cv 3) (pa_cons (cv 4) pa_nil))) (pa_cons (pe_make T.mk_Placed (ok_Placed_XinitX T) (hr.mono (by decide)) rfl T.mg_Placed T.b_Placed_XinitX .nil pass0 (pa_cons (pe_op (oc_add (K := K)) (cv 3) pe_int) pa_nil)) (pa_cons (pe_make T.mk_Missed (ok_Missed_XinitX T) (hr.mono (by decide)) rfl T.mg_Missed T.b_Missed_XinitX .nil pass0 (pa_cons (cv 3) (pa_cons (pe_op (oc_add (K := K)) (cv 4) pe_int) pa_nil))) pa_nil))))))))
        (pss_cons (ps_set (i := 5) sc_law.nd rfl (by first | exact Or.inl rfl | exact Or.inr rfl) (pe_op (oc_add (K := K)) (cv 5) (pe_lst (pa_cons (pe_make T.mk_Missed (ok_Missed_XinitX T) (hr.mono (by decide)) rfl T.mg_Missed T.b_Missed_XinitX .nil pass0 (pa_cons (pe_op (oc_add (K := K)) (cv 3) pe_int) (pa_cons (cv 4) pa_nil))) (pa_cons (pe_make T.mk_Merged (ok_Merged_XinitX T) (hr.mono (by decide)) rfl T.mg_Merged T.b_Merged_XinitX .nil pass0 (pa_cons (pe_op (oc_add (K := K)) (cv 3) pe_int) pa_nil)) pa_nil)))))
        (pss_cons (cs_if (ct_cmp (OpR.or (oc_ne (K := K) hr.units) (OpR.or (op_cmpB (ne := true) (rcB_ownK (K := K) (ok_Outcome_XeqX T) T.fn_Outcome_XeqX T.b_Outcome_XeqX pass0) (hr.mono (by decide))) (op_cmpB (ne := true) (rcB_list (monDOr K ad) (RcB.eqB (RcB.imp (rcB_ownK (K := K) (ok_Outcome_XeqX T) T.fn_Outcome_XeqX T.b_Outcome_XeqX pass0) fun _ _ _ _ h => h.1) fun _ _ _ _ h => h.2)) (hr.mono (by decide))))) (pe_lc (own := [("_law_outcome", 6)]) (g := gName 6) (by rfl) sc_law.nd  (pic_seq (K := K) (pe_slice (sc_U (K := K)) (cv 5) po_none (poc pe_int))) (blkOk_by (own := [("_law_outcome", 6)]) (N := N_law) (sc := defScope s_law) (by decide +kernel)) (fun _ _ _ _ _ => pg_name (i := 6) sc_law.nd rfl (by first | exact Or.inl rfl | exact Or.inr rfl)) (fun _ _ _ _ _ => pts_nil) (fun _ _ _ _ _ => PE.or (pe_meth0 (cv 6) T.cl_Outcome.cl T.me_Outcome_told (ok_Outcome_told T) (hr.mono (by decide)) T.b_Outcome_told .nil pass0) (PE.or (pe_meth0 (cv 6) T.cl_Placed.cl T.me_Placed_told (ok_Placed_told T) (hr.mono (by decide)) T.b_Placed_told .nil pass0) (PE.or (pe_meth0 (cv 6) T.cl_Merged.cl T.me_Merged_told (ok_Merged_told T) (hr.mono (by decide)) T.b_Merged_told .nil pass0) (pe_meth0 (cv 6) T.cl_Missed.cl T.me_Missed_told (ok_Missed_told T) (hr.mono (by decide)) T.b_Missed_told .nil pass0))))) (pe_lst (pa_cons pe_str (pa_cons (pe_op (oc_add (K := K)) pe_str (pe_callTy cc_str (by rfl) T.n_str (by decide +kernel) (pa_cons (cv 3) pa_nil))) pa_nil))) (nomark _))
          (pss_one (ps_ret pe_bl))
          pss_nil)
        (pss_cons (cs_if (ct_cmp (OpR.or (oc_ne (K := K) hr.units) (OpR.or (op_cmpB (ne := true) (rcB_ownK (K := K) (ok_Outcome_XeqX T) T.fn_Outcome_XeqX T.b_Outcome_XeqX pass0) (hr.mono (by decide))) (op_cmpB (ne := true) (rcB_list (monDOr K ad) (RcB.eqB (RcB.imp (rcB_ownK (K := K) (ok_Outcome_XeqX T) T.fn_Outcome_XeqX T.b_Outcome_XeqX pass0) fun _ _ _ _ h => h.1) fun _ _ _ _ h => h.2)) (hr.mono (by decide))))) (PE.or (pe_meth0 (pe_ix (ic_seq (K := K)) (cv 5) pe_int (fun _ _ => rfl)) T.cl_Outcome.cl T.me_Outcome_told (ok_Outcome_told T) (hr.mono (by decide)) T.b_Outcome_told .nil pass0) (PE.or (pe_meth0 (pe_ix (ic_seq (K := K)) (cv 5) pe_int (fun _ _ => rfl)) T.cl_Placed.cl T.me_Placed_told (ok_Placed_told T) (hr.mono (by decide)) T.b_Placed_told .nil pass0) (PE.or (pe_meth0 (pe_ix (ic_seq (K := K)) (cv 5) pe_int (fun _ _ => rfl)) T.cl_Merged.cl T.me_Merged_told (ok_Merged_told T) (hr.mono (by decide)) T.b_Merged_told .nil pass0) (pe_meth0 (pe_ix (ic_seq (K := K)) (cv 5) pe_int (fun _ _ => rfl)) T.cl_Missed.cl T.me_Missed_told (ok_Missed_told T) (hr.mono (by decide)) T.b_Missed_told .nil pass0)))) (pe_op (oc_add (K := K)) pe_str (pe_callTy cc_str (by rfl) T.n_str (by decide +kernel) (pa_cons (cv 3) pa_nil))) (nomark _))
          (pss_one (ps_ret pe_bl))
          pss_nil)
        (pss_cons (cs_if (ct_cmp (OpR.or (oc_ne (K := K) hr.units) (OpR.or (op_cmpB (ne := true) (rcB_ownK (K := K) (ok_Outcome_XeqX T) T.fn_Outcome_XeqX T.b_Outcome_XeqX pass0) (hr.mono (by decide))) (op_cmpB (ne := true) (rcB_list (monDOr K ad) (RcB.eqB (RcB.imp (rcB_ownK (K := K) (ok_Outcome_XeqX T) T.fn_Outcome_XeqX T.b_Outcome_XeqX pass0) fun _ _ _ _ h => h.1) fun _ _ _ _ h => h.2)) (hr.mono (by decide))))) (PE.or (pe_meth0 (pe_ix (ic_seq (K := K)) (cv 5) pe_int (fun _ _ => rfl)) T.cl_Outcome.cl T.me_Outcome_told (ok_Outcome_told T) (hr.mono (by decide)) T.b_Outcome_told .nil pass0) (PE.or (pe_meth0 (pe_ix (ic_seq (K := K)) (cv 5) pe_int (fun _ _ => rfl)) T.cl_Placed.cl T.me_Placed_told (ok_Placed_told T) (hr.mono (by decide)) T.b_Placed_told .nil pass0) (PE.or (pe_meth0 (pe_ix (ic_seq (K := K)) (cv 5) pe_int (fun _ _ => rfl)) T.cl_Merged.cl T.me_Merged_told (ok_Merged_told T) (hr.mono (by decide)) T.b_Merged_told .nil pass0) (pe_meth0 (pe_ix (ic_seq (K := K)) (cv 5) pe_int (fun _ _ => rfl)) T.cl_Missed.cl T.me_Missed_told (ok_Missed_told T) (hr.mono (by decide)) T.b_Missed_told .nil pass0)))) (pe_op (oc_add (K := K)) (pe_op (oc_add (K := K)) (pe_op (oc_add (K := K)) pe_str (pe_callTy cc_str (by rfl) T.n_str (by decide +kernel) (pa_cons (cv 3) pa_nil))) pe_str) (pe_callTy cc_str (by rfl) T.n_str (by decide +kernel) (pa_cons (cv 4) pa_nil))) (nomark _))
          (pss_one (ps_ret pe_bl))
          pss_nil)
        (pss_cons (cs_if (ct_cmp (OpR.or (oc_ne (K := K) hr.units) (OpR.or (op_cmpB (ne := true) (rcB_ownK (K := K) (ok_Outcome_XeqX T) T.fn_Outcome_XeqX T.b_Outcome_XeqX pass0) (hr.mono (by decide))) (op_cmpB (ne := true) (rcB_list (monDOr K ad) (RcB.eqB (RcB.imp (rcB_ownK (K := K) (ok_Outcome_XeqX T) T.fn_Outcome_XeqX T.b_Outcome_XeqX pass0) fun _ _ _ _ h => h.1) fun _ _ _ _ h => h.2)) (hr.mono (by decide))))) (pe_lst (pa_cons (ce_fld (K := K) (pe_ix (ic_seq (K := K)) (cv 5) pe_int (fun _ _ => rfl)) rfl) (pa_cons (ce_fld (K := K) (pe_ix (ic_seq (K := K)) (cv 5) pe_int (fun _ _ => rfl)) rfl) (pa_cons (ce_fld (K := K) (pe_ix (ic_seq (K := K)) (cv 5) pe_int (fun _ _ => rfl)) rfl) (pa_cons (ce_fld (K := K) (pe_ix (ic_seq (K := K)) (cv 5) pe_int (fun _ _ => rfl)) rfl) pa_nil))))) (pe_lst (pa_cons (cv 3) (pa_cons (cv 3) (pa_cons (cv 3) (pa_cons (cv 4) pa_nil))))) (nomark _))
          (pss_one (ps_ret pe_bl))
          pss_nil)
        (pss_cons (ps_for PassesOwn.never rfl (pi_range1 rfl T.n_range (pa_cons pe_int pa_nil)) (pg_name (i := 7) sc_law.nd rfl (by first | exact Or.inl rfl | exact Or.inr rfl))
          (pss_cons (cs_if (ct_cmp (OpR.or (oc_ne (K := K) hr.units) (OpR.or (op_cmpB (ne := true) (rcB_ownK (K := K) (ok_Outcome_XeqX T) T.fn_Outcome_XeqX T.b_Outcome_XeqX pass0) (hr.mono (by decide))) (op_cmpB (ne := true) (rcB_list (monDOr K ad) (RcB.eqB (RcB.imp (rcB_ownK (K := K) (ok_Outcome_XeqX T) T.fn_Outcome_XeqX T.b_Outcome_XeqX pass0) fun _ _ _ _ h => h.1) fun _ _ _ _ h => h.2)) (hr.mono (by decide))))) (pe_lc (own := [("_law_second", 8)]) (g := gName 8) (by rfl) sc_law.nd  (pi_range1 rfl T.n_range (pa_cons pe_int pa_nil)) (blkOk_by (own := [("_law_second", 8)]) (N := N_law) (sc := defScope s_law) (by decide +kernel)) (fun _ _ _ _ _ => pg_name (i := 8) sc_law.nd rfl (by first | exact Or.inl rfl | exact Or.inr rfl)) (fun _ _ _ _ _ => pts_nil) (fun _ _ _ _ _ => pe_cmpR (OpR.or (oc_eq (K := K) hr.units) (op_cmpB (ne := false) (rcB_ownK (K := K) (ok_Outcome_XeqX T) T.fn_Outcome_XeqX T.b_Outcome_XeqX pass0) (hr.mono (by decide)))) (pe_ix (ic_seq (K := K)) (cv 5) (cv 7) (fun _ _ => rfl)) (pe_ix (ic_seq (K := K)) (cv 5) (cv 8) (fun _ _ => rfl)) (nomark _))) (pe_lc (own := [("_law_second", 8)]) (g := gName 8) (by rfl) sc_law.nd  (pi_range1 rfl T.n_range (pa_cons pe_int pa_nil)) (blkOk_by (own := [("_law_second", 8)]) (N := N_law) (sc := defScope s_law) (by decide +kernel)) (fun _ _ _ _ _ => pg_name (i := 8) sc_law.nd rfl (by first | exact Or.inl rfl | exact Or.inr rfl)) (fun _ _ _ _ _ => pts_nil) (fun _ _ _ _ _ => pe_cmpR (OpR.or (oc_eq (K := K) hr.units) (op_cmpB (ne := false) (rcB_ownK (K := K) (ok_Outcome_XeqX T) T.fn_Outcome_XeqX T.b_Outcome_XeqX pass0) (hr.mono (by decide)))) (cv 7) (cv 8) (nomark _))) (nomark _))
            (pss_one (ps_ret pe_bl))
            pss_nil)
          (pss_one (cs_if (PW.pt (cw_or (pt_not (ct_val (pe_callB (cc_isi (K := K)) (by rfl) T.n_isinstance (by decide +kernel) (pa_cons (pe_ix (ic_seq (K := K)) (cv 5) (cv 7) (fun _ _ => rfl)) (pa_cons (pe_glob (v := .ref ad.c_Outcome) rfl T.mg_Outcome rfl) pa_nil))))) (pw_or1 (ct_cmp (OpR.or (oc_eq (K := K) hr.units) (op_cmpB (ne := false) (rcB_ownK (K := K) (ok_Outcome_XeqX T) T.fn_Outcome_XeqX T.b_Outcome_XeqX pass0) (hr.mono (by decide)))) (pe_ix (ic_seq (K := K)) (cv 5) (cv 7) (fun _ _ => rfl)) (PE.or (pe_meth0 (pe_ix (ic_seq (K := K)) (cv 5) (cv 7) (fun _ _ => rfl)) T.cl_Outcome.cl T.me_Outcome_told (ok_Outcome_told T) (hr.mono (by decide)) T.b_Outcome_told .nil pass0) (PE.or (pe_meth0 (pe_ix (ic_seq (K := K)) (cv 5) (cv 7) (fun _ _ => rfl)) T.cl_Placed.cl T.me_Placed_told (ok_Placed_told T) (hr.mono (by decide)) T.b_Placed_told .nil pass0) (PE.or (pe_meth0 (pe_ix (ic_seq (K := K)) (cv 5) (cv 7) (fun _ _ => rfl)) T.cl_Merged.cl T.me_Merged_told (ok_Merged_told T) (hr.mono (by decide)) T.b_Merged_told .nil pass0) (pe_meth0 (pe_ix (ic_seq (K := K)) (cv 5) (cv 7) (fun _ _ => rfl)) T.cl_Missed.cl T.me_Missed_told (ok_Missed_told T) (hr.mono (by decide)) T.b_Missed_told .nil pass0)))) (nomark _)))))
            (pss_one (ps_ret pe_bl))
            pss_nil))))
        (pss_cons (ps_set (i := 9) sc_law.nd rfl (by first | exact Or.inl rfl | exact Or.inr rfl) (pe_lst (pa_cons (pe_makeN T.mn_Outcome rfl T.mg_Outcome) (pa_cons (pe_make T.mk_Placed (ok_Placed_XinitX T) (hr.mono (by decide)) rfl T.mg_Placed T.b_Placed_XinitX .nil pass0 (pa_cons (cv 3) pa_nil)) (pa_cons (pe_make T.mk_Merged (ok_Merged_XinitX T) (hr.mono (by decide)) rfl T.mg_Merged T.b_Merged_XinitX .nil pass0 (pa_cons (cv 3) pa_nil)) (pa_cons (pe_make T.mk_Missed (ok_Missed_XinitX T) (hr.mono (by decide)) rfl T.mg_Missed T.b_Missed_XinitX .nil pass0 (pa_cons (cv 3) (pa_cons (cv 4) pa_nil))) pa_nil))))))
        (pss_one (cs_if (PW.pt (cw_or (ct_cmp (OpR.or (oc_ne (K := K) hr.units) (OpR.or (op_cmpB (ne := true) (rcB_ownK (K := K) (ok_Outcome_XeqX T) T.fn_Outcome_XeqX T.b_Outcome_XeqX pass0) (hr.mono (by decide))) (op_cmpB (ne := true) (rcB_list (monDOr K ad) (RcB.eqB (RcB.imp (rcB_ownK (K := K) (ok_Outcome_XeqX T) T.fn_Outcome_XeqX T.b_Outcome_XeqX pass0) fun _ _ _ _ h => h.1) fun _ _ _ _ h => h.2)) (hr.mono (by decide))))) (cv 9) (pe_slice (sc_U (K := K)) (cv 5) po_none (poc pe_int)) (nomark _)) (cw_or (ct_cmp (OpR.or (oc_ne (K := K) hr.units) (OpR.or (op_cmpB (ne := true) (rcB_ownK (K := K) (ok_Outcome_XeqX T) T.fn_Outcome_XeqX T.b_Outcome_XeqX pass0) (hr.mono (by decide))) (op_cmpB (ne := true) (rcB_list (monDOr K ad) (RcB.eqB (RcB.imp (rcB_ownK (K := K) (ok_Outcome_XeqX T) T.fn_Outcome_XeqX T.b_Outcome_XeqX pass0) fun _ _ _ _ h => h.1) fun _ _ _ _ h => h.2)) (hr.mono (by decide))))) (pe_ix (ic_seq (K := K)) (cv 5) pe_int (fun _ _ => rfl)) (pe_make T.mk_Missed (ok_Missed_XinitX T) (hr.mono (by decide)) rfl T.mg_Missed T.b_Missed_XinitX .nil pass0 (pa_cons (cv 3) (pa_cons (cv 4) pa_nil))) (nomark _)) (pw_or1 (ct_cmp (OpR.or (oc_ne (K := K) hr.units) (OpR.or (op_cmpB (ne := true) (rcB_ownK (K := K) (ok_Outcome_XeqX T) T.fn_Outcome_XeqX T.b_Outcome_XeqX pass0) (hr.mono (by decide))) (op_cmpB (ne := true) (rcB_list (monDOr K ad) (RcB.eqB (RcB.imp (rcB_ownK (K := K) (ok_Outcome_XeqX T) T.fn_Outcome_XeqX T.b_Outcome_XeqX pass0) fun _ _ _ _ h => h.1) fun _ _ _ _ h => h.2)) (hr.mono (by decide))))) (pe_ix (ic_seq (K := K)) (cv 5) pe_int (fun _ _ => rfl)) (pe_makeN T.mn_Outcome rfl T.mg_Outcome) (nomark _))))))
          (pss_one (ps_ret pe_bl))
          pss_nil)))))))))))))
      (pss_one (ps_ret pe_bl)), ?_⟩
    tm_at "w"
    refine ⟨_, .inl ha, ?_⟩
    rw [List.length_map]
    refine ⟨_, rfl, by omega, by omega, ?_⟩
    refine for_range (lo := 0) (n := (max 1 (min 3 (ns.length : Int))).toNat) (fun i σ H' => ∃ (u1 u2 u3 u4 u5 u6 u7 u8 u9 : Option V), σ = [some (.ref a), u1, u2, u3, u4, u5, u6, u7, u8, u9] ∧ Same H H') ⟨_, _, _, _, _, _, _, _, _, rfl, Same.refl _⟩ ?_ (fun σ H' _ => q H')
    rintro i σ H1 hi ⟨u1, u2, u3, u4, u5, u6, u7, u8, u9, rfl, s1⟩
    refine ⟨a, _, ns, rfl, s1.seq ha, hns, by omega, by omega, fun s xs hs hx => ?_⟩
    have hs0 : H s = none := s1.free hs
    -- _law_at, _law_line
    refine ⟨pow_bits (a := 4) (by decide) (by decide) (by decide) (by decide), ?_⟩
    refine ⟨by show 2 ≤ sizeLine; decide, fun p0 hp0 => ?_⟩
    have n0s : s ≠ p0 := ne_of_none upd_same hp0
    have f0 : H p0 = none := s1.free (upd_none hp0)
    refine ⟨s, _, _, xs, rfl, upd_oth n0s upd_same, hx, by decide, by decide, by decide, fun d1 ys1 hd10 hd11 hy1 => ?_⟩
    obtain ⟨bd, hb1, hb2⟩ := atI_ints (ls := [9, 10 ^ (9 : Int).toNat]) hd10 hd11
    have hb3 : 0 < bd ∧ bd ≤ 10 ^ 9 := by
      have : ∀ z ∈ ([9, 10 ^ (9 : Int).toNat] : List Int), 0 < z ∧ z ≤ 10 ^ 9 := by decide
      exact this bd hb1
    refine ⟨_, _, .inl (SqL.of (upd_oth n0s.symm upd_same)), hb2, ?_⟩
    refine ⟨s, _, _, ys1, rfl, upd_same, hy1, by decide, hb3.1, by omega, fun n ys2 hn0 hn1 hy2 => ?_⟩
    refine ⟨s, _, _, ys2, rfl, upd_same, hy2, by decide, by decide, by decide, fun l ys3 hl0 hl1 hy3 => ?_⟩
    have hn2 : n ≤ 10 ^ 9 := by omega
    have hl2 : l ≤ 10 ^ 9 := by have : l < 60 := hl1; omega
    refine ⟨_, _, rfl, ?_⟩
    have sA : Same H (upd (upd (upd (upd (upd H1 s (.lst xs)) p0 (.lst [.int 9, .int (10 ^ (9 : Int).toNat)])) s (.lst ys1)) s (.lst ys2)) s (.lst ys3)) := ((((s1.wr hs0).wr f0).wr hs0).wr hs0).wr hs0
    -- the outcomes
    intro x0 d0 hx0 hd0 hn0'
    have g0 := mkn_same (o1 := .own x0) (o2 := .ins ad.c_Outcome d0 []) hx0 hd0
    intro x1 dx1 hx1 hdx1 hn1'
    refine ⟨x1, dx1, n, rfl, upd_same, fun H2 e2 h2 => ⟨rfl, ?_⟩⟩
    have g1 := mk_same hx1 hdx1 e2
    have o1 : OcAt ad H2 x1 (.placed n) := ⟨dx1, h2⟩
    have o0 : OcAt ad H2 x0 .base := ⟨d0, g1 _ _ upd_same⟩
    have sB := sA.trans (g0.trans g1)
    clear sA g0 g1 e2 h2
    intro x2 dx2 hx2 hdx2 hn2'
    refine ⟨x2, dx2, n, rfl, upd_same, fun H3 e3 h3 => ⟨rfl, ?_⟩⟩
    have g2 := mk_same hx2 hdx2 e3
    have o2 : OcAt ad H3 x2 (.merged n) := ⟨dx2, h3⟩
    replace o0 := o0.same g2; replace o1 := o1.same g2
    replace sB := sB.trans g2
    clear g2 e3 h3 hx1 hdx1
    intro x3 dx3 hx3 hdx3 hn3'
    refine ⟨x3, dx3, n, l, rfl, upd_same, fun H4 e4 h4 => ⟨rfl, ?_⟩⟩
    have g3 := mk_same hx3 hdx3 e4
    have o3 : OcAt ad H4 x3 (.missed n l) := ⟨dx3, h4⟩
    replace o0 := o0.same g3; replace o1 := o1.same g3; replace o2 := o2.same g3
    replace sB := sB.trans g3
    clear g3 e4 h4
    intro x4 dx4 hx4 hdx4 hn4'
    refine ⟨x4, dx4, n + 1, rfl, upd_same, fun H5 e5 h5 => ⟨rfl, ?_⟩⟩
    have g4 := mk_same hx4 hdx4 e5
    have o4 : OcAt ad H5 x4 (.placed (n + 1)) := ⟨dx4, h5⟩
    replace o0 := o0.same g4; replace o1 := o1.same g4; replace o2 := o2.same g4; replace o3 := o3.same g4
    replace sB := sB.trans g4
    clear g4 e5 h5
    intro x5 dx5 hx5 hdx5 hn5'
    refine ⟨x5, dx5, n, l + 1, rfl, upd_same, fun H6 e6 h6 => ⟨rfl, ?_⟩⟩
    have g5 := mk_same hx5 hdx5 e6
    have o5 : OcAt ad H6 x5 (.missed n (l + 1)) := ⟨dx5, h6⟩
    replace o0 := o0.same g5; replace o1 := o1.same g5; replace o2 := o2.same g5; replace o3 := o3.same g5; replace o4 := o4.same g5
    replace sB := sB.trans g5
    clear g5 e6 h6
    refine ⟨by show 6 ≤ sizeLine; decide, fun p1 hp1 => ?_⟩
    replace o0 := o0.same (Same.new (o := .lst [.ref x0, .ref x1, .ref x2, .ref x3, .ref x4, .ref x5]) hp1)
    replace o1 := o1.same (Same.new (o := .lst [.ref x0, .ref x1, .ref x2, .ref x3, .ref x4, .ref x5]) hp1)
    replace o2 := o2.same (Same.new (o := .lst [.ref x0, .ref x1, .ref x2, .ref x3, .ref x4, .ref x5]) hp1)
    replace o3 := o3.same (Same.new (o := .lst [.ref x0, .ref x1, .ref x2, .ref x3, .ref x4, .ref x5]) hp1)
    replace o4 := o4.same (Same.new (o := .lst [.ref x0, .ref x1, .ref x2, .ref x3, .ref x4, .ref x5]) hp1)
    replace o5 := o5.same (Same.new (o := .lst [.ref x0, .ref x1, .ref x2, .ref x3, .ref x4, .ref x5]) hp1)
    replace sB := sB.trans (Same.new (o := .lst [.ref x0, .ref x1, .ref x2, .ref x3, .ref x4, .ref x5]) hp1)
    intro x6 dx6 hx6 hdx6 hn6'
    refine ⟨x6, dx6, n + 1, l, rfl, upd_same, fun H7 e7 h7 => ⟨rfl, ?_⟩⟩
    have g6 := mk_same hx6 hdx6 e7
    have o6 : OcAt ad H7 x6 (.missed (n + 1) l) := ⟨dx6, h7⟩
    have hp1' := g6 _ _ (upd_same (H := H6) (a := p1))
    replace o0 := o0.same g6; replace o1 := o1.same g6; replace o2 := o2.same g6; replace o3 := o3.same g6; replace o4 := o4.same g6; replace o5 := o5.same g6
    replace sB := sB.trans g6
    clear g6 e7 h7
    intro x7 dx7 hx7 hdx7 hn7'
    refine ⟨x7, dx7, n + 1, rfl, upd_same, fun H8 e8 h8 => ⟨rfl, ?_⟩⟩
    have g7 := mk_same hx7 hdx7 e8
    have o7 : OcAt ad H8 x7 (.merged (n + 1)) := ⟨dx7, h8⟩
    replace o0 := o0.same g7; replace o1 := o1.same g7; replace o2 := o2.same g7; replace o3 := o3.same g7; replace o4 := o4.same g7; replace o5 := o5.same g7; replace o6 := o6.same g7
    replace hp1' := g7 _ _ hp1'
    replace sB := sB.trans g7
    clear g7 e8 h8
    refine ⟨by show 2 ≤ sizeLine; decide, fun p2 hp2 => ?_⟩
    refine .inl ⟨_, _, upd_new hp1' hp2, upd_same, by show 8 ≤ sizeLine; decide, fun mp hmp => ?_⟩
    have sC : Same H8 (upd (upd H8 p2 (.lst [.ref x6, .ref x7])) mp (.lst ([.ref x0, .ref x1, .ref x2, .ref x3, .ref x4, .ref x5] ++ [.ref x6, .ref x7]))) := (Same.new hp2).trans (Same.new hmp)
    have hM : (upd (upd H8 p2 (.lst [.ref x6, .ref x7])) mp (.lst ([.ref x0, .ref x1, .ref x2, .ref x3, .ref x4, .ref x5] ++ [.ref x6, .ref x7]))) mp = some (.lst ([x0, x1, x2, x3, x4, x5, x6, x7].map V.ref)) := upd_same
    have hO : Paired (OcAt ad (upd (upd H8 p2 (.lst [.ref x6, .ref x7])) mp (.lst ([.ref x0, .ref x1, .ref x2, .ref x3, .ref x4, .ref x5] ++ [.ref x6, .ref x7])))) [x0, x1, x2, x3, x4, x5, x6, x7] (osOf n l) :=
      .cons (o0.same sC) (.cons (o1.same sC) (.cons (o2.same sC) (.cons (o3.same sC) (.cons (o4.same sC) (.cons (o5.same sC) (.cons (o6.same sC) (.cons (o7.same sC) .nil)))))))
    replace sB := sB.trans sC
    clear o0 o1 o2 o3 o4 o5 o6 o7 hp1'
    generalize hHX : upd (upd H8 p2 (.lst [.ref x6, .ref x7])) mp (.lst ([.ref x0, .ref x1, .ref x2, .ref x3, .ref x4, .ref x5] ++ [.ref x6, .ref x7])) = HX at hM hO sB ⊢
    clear hHX
    have hsm := os_small hn0 hn2 hl0 hl2
    have hnl := num_len hn0 (show n < 10 ^ 10 by omega)
    have hll := num_len hl0 (show l < 10 ^ 10 by omega)
    have hnlog := num_log hn0 (show n < 10 ^ 10 by omega)
    have hllog := num_log hl0 (show l < 10 ^ 10 by omega)
    have get : ∀ {H' : Hp}, Same HX H' → ∀ (k : Nat) (x : Addr) (o : Oc), ([x0, x1, x2, x3, x4, x5, x6, x7] : List Addr)[k]? = some x → (osOf n l)[k]? = some o → OcAt ad H' x o := by
      intro H' e k x o h1 h2
      obtain ⟨o', h3, h4⟩ := prd_get hO h1
      rw [h2] at h3
      cases h3
      exact h4.same e
    -- the texts of the first two
    refine .inl ?_
    tm_at "w"
    refine .inl ⟨mp, _, rfl, SqL.of hM, fun sp hsp => ?_⟩
    have sS : Same HX (upd HX sp (.lst (cutV ([x0, x1, x2, x3, x4, x5, x6, x7].map V.ref) none (some 2)))) := Same.new hsp
    refine ⟨sp, rfl, ⟨_, SqL.of upd_same⟩, fun D hD => ?_⟩
    refine lc_list (te := tTold ad (tV 6)) (K := K) (a := sp) (xs := [x0, x1].map V.ref) (fun j H' => H' D = some (.lst (((([Oc.base, .placed n] : List Oc).take j).map Oc.told).map V.str)) ∧ Same HX H' ∧ H' sp = some (.lst ([x0, x1].map V.ref))) ⟨upd_same, sS.trans (Same.new hD), upd_new upd_same hD⟩ ?_ ?_ ?_
    · rintro j H' _ ⟨_, _, h⟩
      exact SqL.of h
    · rintro j x H' hx ⟨h1, h2, h3⟩
      rw [List.getElem?_map] at hx
      obtain ⟨z, hz, rfl⟩ := Option.map_eq_some_iff.mp hx
      have hj : j < 2 := (List.getElem?_eq_some_iff.mp hz).1
      refine ⟨rfl, ?_⟩
      tm_at "w"
      have key : ∃ o, ([Oc.base, .placed n] : List Oc)[j]? = some o ∧ OcAt ad HX z o ∧ o.small := by
        match j, hj with
        | 0, _ =>
          obtain rfl : x0 = z := by simpa using hz
          exact ⟨_, rfl, get (Same.refl _) 0 _ _ rfl rfl, trivial⟩
        | 1, _ =>
          obtain rfl : x1 = z := by simpa using hz
          exact ⟨_, rfl, get (Same.refl _) 1 _ _ rfl rfl, hsm _ (by simp [osOf])⟩
      obtain ⟨o, ho1, ho2, ho3⟩ := key
      refine told_ask (ad := ad) (fun R r => r) (ho2.same h2) ho3 ?_
      have nDs : sp ≠ D := ne_of_none (upd_same (H := HX)) hD
      refine ⟨_, h1, ?_, ?_, h2.wr (upd_none hD), upd_oth nDs h3⟩
      · rw [List.length_map, List.length_map, List.length_take, sizeLine_eq]; omega
      · rw [upd_same, List.take_succ, ho1, List.map_append, List.map_append]; rfl
    rintro HZ ⟨z1, z2, _⟩
    have z1 : HZ D = some (.lst ((([Oc.base, .placed n] : List Oc).map Oc.told).map V.str)) := z1
    refine ⟨hnlog, ?_⟩
    refine ⟨by rw [sizeLine_eq]; show 19 + (num n).length ≤ _; omega, ?_⟩
    refine ⟨by show 2 ≤ sizeLine; decide, fun p3 hp3 => ?_⟩
    have tPl : (Oc.placed n).told = ("outcome: placed at " : Str) ++ num n := by
      show ("outcome" : Str) ++ ((Str.empty ++ (": placed at " : Str)) ++ num n) = _
      rw [← str_assoc]; rfl
    have tMe : (Oc.merged n).told = ("outcome: merged at " : Str) ++ num n := by
      show ("outcome" : Str) ++ ((Str.empty ++ (": merged at " : Str)) ++ num n) = _
      rw [← str_assoc]; rfl
    have tMi : (Oc.missed n l).told = (("outcome: missed at " : Str) ++ num n ++ (" by line " : Str)) ++ num l := by
      show ("outcome" : Str) ++ ((((Str.empty ++ (": missed at " : Str)) ++ num n) ++ (" by line " : Str)) ++ num l) = _
      rw [← str_assoc, ← str_assoc, ← str_assoc]; rfl
    refine .inl (.inl (rNe_strs (xs := ([Oc.base, .placed n] : List Oc).map Oc.told) (ys := [("outcome" : Str), ("outcome: placed at " : Str) ++ num n]) (.inl ⟨SqL.of (upd_new z1 hp3), SqL.of upd_same⟩) ?_))
    refine ⟨fun h => ?_, fun _ => ?_⟩
    · have e : ([Oc.base, .placed n] : List Oc).map Oc.told = [("outcome" : Str), ("outcome: placed at " : Str) ++ num n] := by
        rw [List.map_cons, List.map_cons, List.map_nil, tPl]; rfl
      rw [e] at h
      exact absurd h (by simp)
    have sD : Same HX (upd HZ p3 (.lst [.str "outcome", .str (("outcome: placed at " : Str) ++ Str.ofString (toString n))])) := z2.trans (Same.new hp3)
    generalize hY : upd HZ p3 (.lst [.str "outcome", .str (("outcome: placed at " : Str) ++ Str.ofString (toString n))]) = HY at sD ⊢
    clear hY sS hp3 hD hsp
    have hMY : HY mp = some (.lst ([x0, x1, x2, x3, x4, x5, x6, x7].map V.ref)) := sD _ _ hM
    replace sB := sB.trans sD
    replace get : ∀ {H' : Hp}, Same HY H' → ∀ (k : Nat) (x : Addr) (o : Oc), ([x0, x1, x2, x3, x4, x5, x6, x7] : List Addr)[k]? = some x → (osOf n l)[k]? = some o → OcAt ad H' x o := fun e => get (sD.trans e)
    clear hO hM sD
    -- the texts of the third and the fourth
    refine told_ask (ad := ad) (ta := tOp (rIxC K) (tV 5) (tC (.int 2))) (fun R r => ⟨_, _, .inl (SqL.of hMY), rfl, r⟩) (get (Same.refl _) 2 x2 _ rfl rfl) (hsm _ (by simp [osOf])) ?_
    refine ⟨hnlog, ?_⟩
    refine ⟨by rw [sizeLine_eq]; show 19 + (num n).length ≤ _; omega, ?_⟩
    refine .inl ⟨fun h => ?_, fun _ => ?_⟩
    · rw [tMe] at h
      exact absurd h (by simp [num])
    refine told_ask (ad := ad) (ta := tOp (rIxC K) (tV 5) (tC (.int 3))) (fun R r => ⟨_, _, .inl (SqL.of hMY), rfl, r⟩) (get (Same.refl _) 3 x3 _ rfl rfl) (hsm _ (by simp [osOf])) ?_
    refine ⟨hnlog, ?_⟩
    refine ⟨by rw [sizeLine_eq]; show 19 + (num n).length ≤ _; omega, ?_⟩
    refine ⟨by rw [sizeLine_eq, str_len_app]; show 19 + (num n).length + 9 ≤ _; omega, ?_⟩
    refine ⟨hllog, ?_⟩
    refine ⟨by rw [sizeLine_eq]; simp only [str_len_app]; show 19 + (num n).length + 9 + (num l).length ≤ _; omega, ?_⟩
    refine .inl ⟨fun h => ?_, fun _ => ?_⟩
    · rw [tMi] at h
      exact absurd h (by simp [num])
    -- the attributes
    obtain ⟨dd1, hh1⟩ := get (Same.refl _) 1 x1 _ rfl rfl
    obtain ⟨dd2, hh2⟩ := get (Same.refl _) 2 x2 _ rfl rfl
    obtain ⟨dd3, hh3⟩ := get (Same.refl _) 3 x3 _ rfl rfl
    tm_at "w"
    refine ⟨_, _, .inl (SqL.of hMY), rfl, _, _, _, _, hh1, T.cl_Placed.cl, T.na_Placed_at, by rw [Oc.fs, List.lookup_cons, beq_self_eq_true], ?_⟩
    refine ⟨_, _, .inl (SqL.of hMY), rfl, _, _, _, _, hh2, T.cl_Merged.cl, T.na_Merged_at, by rw [Oc.fs, List.lookup_cons, beq_self_eq_true], ?_⟩
    refine ⟨_, _, .inl (SqL.of hMY), rfl, _, _, _, _, hh3, T.cl_Missed.cl, T.na_Missed_at, by rw [Oc.fs, List.lookup_cons, beq_self_eq_true], ?_⟩
    refine ⟨_, _, .inl (SqL.of hMY), rfl, _, _, _, _, hh3, T.cl_Missed.cl, T.na_Missed_line, by rw [Oc.fs, List.lookup_cons, line_ne, List.lookup_cons, beq_self_eq_true], ?_⟩
    refine ⟨by show 4 ≤ sizeLine; decide, fun p4 hp4 => ?_⟩
    refine ⟨by show 4 ≤ sizeLine; decide, fun p5 hp5 => ?_⟩
    refine .inl (.inl (rNe_ints (xs := [n, n, n, l]) (ys := [n, n, n, l]) (.inl ⟨SqL.of (upd_new upd_same hp5), SqL.of upd_same⟩) ?_))
    refine ⟨fun h => absurd h (by simp), fun _ => ?_⟩
    -- all pairs
    refine ⟨_, rfl, by decide, by decide, ?_⟩
    refine for_range (lo := 0) (n := (8 : Int).toNat) (fun k σ H' => ∃ (u6 u7 u8 u9 : Option V), σ = [some (.ref a), some (.int (0 + (i : Int))), some (.ref s), some (.int n), some (.int l), some (.ref mp), u6, u7, u8, u9] ∧ Same HY H') ⟨_, _, _, _, rfl, (Same.new hp4).trans (Same.new hp5)⟩ ?_ ?_
    · rintro k σ H2 hk ⟨v6, v7, v8, v9, rfl, sE⟩
      have hk8 : k < 8 := hk
      obtain ⟨xk, hxk⟩ : ∃ x, ([x0, x1, x2, x3, x4, x5, x6, x7] : List Addr)[k]? = some x := ⟨_, List.getElem?_eq_getElem hk8⟩
      obtain ⟨ok, hok⟩ : ∃ o, (osOf n l)[k]? = some o := ⟨_, List.getElem?_eq_getElem hk8⟩
      refine ⟨_, rfl, by decide, by decide, fun D hD => ?_⟩
      refine lc_range (lo := 0) (n := (8 : Int).toNat) (fun j H' => H' D = some (.lst (((List.range j).map fun j => decide (k = j)).map V.bl)) ∧ Same H2 H') ⟨upd_same, Same.new hD⟩ ?_ ?_
      · rintro j H3 hj ⟨h1, h2⟩
        have hj8 : j < 8 := hj
        obtain ⟨xj, hxj⟩ : ∃ x, ([x0, x1, x2, x3, x4, x5, x6, x7] : List Addr)[j]? = some x := ⟨_, List.getElem?_eq_getElem hj8⟩
        obtain ⟨oj, hoj⟩ : ∃ o, (osOf n l)[j]? = some o := ⟨_, List.getElem?_eq_getElem hj8⟩
        have sF := sE.trans h2
        refine ⟨rfl, ?_⟩
        tm_at "w"
        refine ⟨_, _, .inl (SqL.of (sF _ _ hMY)), atI_map (j := k) (by omega) hxk, ?_⟩
        refine ⟨_, _, .inl (SqL.of (sF _ _ hMY)), atI_map (j := j) (by omega) hxj, ?_⟩
        refine .inr ⟨_, dOw T (get sF k xk ok hxk hok) (get sF j xj oj hxj hoj), fun H4 e4 => ?_⟩
        refine ⟨_, e4 _ _ h1, by rw [List.length_map, List.length_map, List.length_range, sizeLine_eq]; omega, ?_, ?_⟩
        · rw [upd_same, os_eq hok hoj, List.range_succ, List.map_append, List.map_append]
          simp only [List.map_cons, List.map_nil, Bool.false_bne]
        · exact (h2.trans e4).wr hD
      · rintro H3 ⟨h1, h2⟩
        refine ⟨_, rfl, by decide, by decide, fun D2 hD2 => ?_⟩
        refine lc_range (lo := 0) (n := (8 : Int).toNat) (fun j H' => H' = upd H3 D2 (.lst (((List.range j).map fun j => decide (k = j)).map V.bl))) rfl ?_ ?_
        · rintro j H4 hj rfl
          have hj8 : j < 8 := hj
          refine ⟨rfl, ?_⟩
          tm_at "w"
          refine .inl ?_
          refine ⟨_, upd_same, by rw [List.length_map, List.length_map, List.length_range, sizeLine_eq]; omega, ?_⟩
          have e : decide ((0 + (k : Int)) = 0 + (j : Int)) = decide (k = j) := by
            by_cases g : k = j
            · rw [decide_eq_true g, decide_eq_true (by omega)]
            · rw [decide_eq_false g, decide_eq_false (by omega)]
          rw [upd_upd, List.range_succ, List.map_append, List.map_append]
          show upd H3 D2 (.lst (_ ++ [V.bl (decide ((0 + (k : Int)) = 0 + (j : Int)))])) = _
          rw [e]; rfl
        · rintro H4 rfl
          refine .inl (.inl (rNe_bls (xs := (List.range 8).map fun j => decide (k = j)) (ys := (List.range 8).map fun j => decide (k = j)) (.inl ⟨SqL.of (upd_new h1 hD2), SqL.of upd_same⟩) ?_))
          refine ⟨fun h => absurd h (by simp), fun _ => ?_⟩
          have sG : Same HY (upd H3 D2 (.lst (((List.range (8 : Int).toNat).map fun j => decide (k = j)).map V.bl))) := (sE.trans h2).trans (Same.new hD2)
          obtain ⟨ddk, hhk⟩ := get sG k xk ok hxk hok
          refine ⟨_, _, .inl (SqL.of (sG _ _ hMY)), atI_map (j := k) (by omega) hxk, ?_⟩
          refine ⟨_, true, (ocl T ok).ins hhk, T.cl_Outcome.kit (osub T ok) (fun _ => rfl), fun h => (nomatch h), fun _ => ?_⟩
          refine ⟨_, _, .inl (SqL.of (sG _ _ hMY)), atI_map (j := k) (by omega) hxk, ?_⟩
          refine told_ask (ad := ad) (ta := tOp (rIxC K) (tV 5) (tV 7)) (fun R r => ⟨_, _, .inl (SqL.of (sG _ _ hMY)), atI_map (j := k) (by omega) hxk, r⟩) (get sG k xk ok hxk hok) (hsm _ (List.mem_of_getElem? hok)) ?_
          refine .inr ⟨_, dOwS T (get sG k xk ok hxk hok), fun H5 e5 => ⟨fun h => absurd h (by decide), fun _ => ?_⟩⟩
          exact ⟨_, _, _, _, rfl, sG.trans e5⟩
    · rintro σ H2 ⟨v6, v7, v8, v9, rfl, sE⟩
      intro y0 e0 hy0 he0 hne0
      have g0 := mkn_same (o1 := .own y0) (o2 := .ins ad.c_Outcome e0 []) hy0 he0
      intro y1 e1 hy1 he1 hne1
      refine ⟨y1, e1, n, rfl, upd_same, fun H3 c3 h3 => ⟨rfl, ?_⟩⟩
      have g1 := mk_same hy1 he1 c3
      have q1 : OcAt ad H3 y1 (.placed n) := ⟨e1, h3⟩
      have q0 : OcAt ad H3 y0 .base := ⟨e0, g1 _ _ upd_same⟩
      have sF := sE.trans (g0.trans g1)
      clear g0 g1 c3 h3
      intro y2 e2 hy2 he2 hne2
      refine ⟨y2, e2, n, rfl, upd_same, fun H4 c4 h4 => ⟨rfl, ?_⟩⟩
      have g2 := mk_same hy2 he2 c4
      have q2 : OcAt ad H4 y2 (.merged n) := ⟨e2, h4⟩
      replace q0 := q0.same g2; replace q1 := q1.same g2; replace sF := sF.trans g2
      clear g2 c4 h4
      intro y3 e3 hy3 he3 hne3
      refine ⟨y3, e3, n, l, rfl, upd_same, fun H5 c5 h5 => ⟨rfl, ?_⟩⟩
      have g3 := mk_same hy3 he3 c5
      have q3 : OcAt ad H5 y3 (.missed n l) := ⟨e3, h5⟩
      replace q0 := q0.same g3; replace q1 := q1.same g3; replace q2 := q2.same g3; replace sF := sF.trans g3
      clear g3 c5 h5
      refine ⟨by show 4 ≤ sizeLine; decide, fun ag hag => ?_⟩
      have sG := sF.trans (Same.new (o := .lst [.ref y0, .ref y1, .ref y2, .ref y3]) hag)
      have sg2 := Same.new (o := .lst [.ref y0, .ref y1, .ref y2, .ref y3]) hag
      tm_at "w"
      refine .inl ⟨mp, _, rfl, SqL.of (sG _ _ hMY), fun sl hsl => ?_⟩
      have sl2 := Same.new (o := .lst (cutV ([x0, x1, x2, x3, x4, x5, x6, x7].map V.ref) none (some 4))) hsl
      have sH := sG.trans sl2
      have sq := sg2.trans sl2
      refine .inr (.inr ⟨true, ⟨ag, sl, [.ref y0, .ref y1, .ref y2, .ref y3], [x0, x1, x2, x3].map V.ref, fun _ => true, rfl, rfl, sl2 _ _ upd_same, upd_same, rfl, ?_, rfl⟩, fun H6 e6 => ⟨fun h => absurd h (by decide), fun _ => ?_⟩⟩)
      · have fin : ∀ {y x : Addr} {o : Oc}, OcAt ad (upd (upd H5 ag (.lst [.ref y0, .ref y1, .ref y2, .ref y3])) sl (.lst (cutV ([x0, x1, x2, x3, x4, x5, x6, x7].map V.ref) none (some 4)))) y o → OcAt ad (upd (upd H5 ag (.lst [.ref y0, .ref y1, .ref y2, .ref y3])) sl (.lst (cutV ([x0, x1, x2, x3, x4, x5, x6, x7].map V.ref) none (some 4)))) x o →
            DOr K ad (.ref y) (.ref x) (upd (upd H5 ag (.lst [.ref y0, .ref y1, .ref y2, .ref y3])) sl (.lst (cutV ([x0, x1, x2, x3, x4, x5, x6, x7].map V.ref) none (some 4)))) true := by
          intro y x o h1 h2
          have := dOw T h1 h2
          rw [decide_eq_true rfl] at this
          exact ⟨this, y, x, rfl, rfl, fun _ => rfl⟩
        intro j x y hx hy
        match j, hx, hy with
        | 0, hx, hy => cases hx; cases hy; exact fin (q0.same sq) (get sH 0 x0 _ rfl rfl)
        | 1, hx, hy => cases hx; cases hy; exact fin (q1.same sq) (get sH 1 x1 _ rfl rfl)
        | 2, hx, hy => cases hx; cases hy; exact fin (q2.same sq) (get sH 2 x2 _ rfl rfl)
        | 3, hx, hy => cases hx; cases hy; exact fin (q3.same sq) (get sH 3 x3 _ rfl rfl)
        | j + 4, hx, _ => simp at hx
      have sI := sH.trans e6
      refine ⟨_, _, .inl (SqL.of (sI _ _ hMY)), rfl, ?_⟩
      intro z1 f1 hz1 hf1 hnz1
      refine ⟨z1, f1, n, l, rfl, upd_same, fun H7 c7 h7 => ⟨rfl, ?_⟩⟩
      have sJ := sI.trans (mk_same hz1 hf1 c7)
      have r1 : OcAt ad H7 z1 (.missed n l) := ⟨f1, h7⟩
      have dd := dOw T (get sJ 3 x3 _ rfl rfl) r1
      rw [decide_eq_true rfl] at dd
      refine .inr (.inl ⟨true, dd, fun H8' e8 => ⟨fun h => absurd h (by decide), fun _ => ?_⟩⟩)
      have sK := sJ.trans e8
      refine ⟨_, _, .inl (SqL.of (sK _ _ hMY)), rfl, ?_⟩
      intro z2 f2 hz2 hf2 hnz2
      have sL := sK.trans (mkn_same (o1 := .own z2) (o2 := .ins ad.c_Outcome f2 []) hz2 hf2)
      have dd2' := dOw T (get sL 0 x0 _ rfl rfl) (show OcAt ad _ z2 .base from ⟨f2, upd_same⟩)
      rw [decide_eq_true rfl] at dd2'
      refine .inr (.inl ⟨true, dd2', fun H9 e9 => ⟨fun h => absurd h (by decide), fun _ => ?_⟩⟩)
      exact ⟨_, _, _, _, _, _, _, _, _, rfl, sB.trans (sL.trans e9)⟩
end
end Toy

namespace Toy
open PySem L2
theorem all_mk {K : PySem.W.Frag} {h : Heap} {mg : Str → Option Value} {fa : Addr} (X : K.In h) (G : h.Ns mainGlobals mg) (hfa : mg "law" = some (.ref fa))
    {c_Outcome c_Placed c_Merged c_Missed : Addr}
    {f_Outcome_told : Addr} {od_Outcome_told an_Outcome_told : Option Addr} {sl_Outcome_told : Array (Option Value)} {oc_Outcome_told kV_Outcome_told dc_Outcome_told pm_Outcome_told cd_Outcome_told ct_Outcome_told : Value}
    {f_Outcome_content : Addr} {od_Outcome_content an_Outcome_content : Option Addr} {sl_Outcome_content : Array (Option Value)} {oc_Outcome_content kV_Outcome_content dc_Outcome_content pm_Outcome_content cd_Outcome_content ct_Outcome_content : Value}
    {f_Outcome_XeqX : Addr} {od_Outcome_XeqX an_Outcome_XeqX : Option Addr} {sl_Outcome_XeqX : Array (Option Value)} {oc_Outcome_XeqX kV_Outcome_XeqX dc_Outcome_XeqX pm_Outcome_XeqX cd_Outcome_XeqX ct_Outcome_XeqX : Value}
    {f_Placed_XinitX : Addr} {od_Placed_XinitX an_Placed_XinitX : Option Addr} {sl_Placed_XinitX : Array (Option Value)} {oc_Placed_XinitX kV_Placed_XinitX dc_Placed_XinitX pm_Placed_XinitX cd_Placed_XinitX ct_Placed_XinitX : Value}
    {f_Placed_content : Addr} {od_Placed_content an_Placed_content : Option Addr} {sl_Placed_content : Array (Option Value)} {oc_Placed_content kV_Placed_content dc_Placed_content pm_Placed_content cd_Placed_content ct_Placed_content : Value}
    {f_Placed_told : Addr} {od_Placed_told an_Placed_told : Option Addr} {sl_Placed_told : Array (Option Value)} {oc_Placed_told kV_Placed_told dc_Placed_told pm_Placed_told  ct_Placed_told : Value}
    {cd_Placed_told cx_Placed_told : Addr} {cl2_Placed_told ccl_Placed_told : Value} {cld_Placed_told cdd_Placed_told : Option Addr} {csl_Placed_told ccs_Placed_told : Array (Option Value)} {vs_Placed_told : Array Value} {tf_Placed_told : Tok}
    {f_Merged_XinitX : Addr} {od_Merged_XinitX an_Merged_XinitX : Option Addr} {sl_Merged_XinitX : Array (Option Value)} {oc_Merged_XinitX kV_Merged_XinitX dc_Merged_XinitX pm_Merged_XinitX cd_Merged_XinitX ct_Merged_XinitX : Value}
    {f_Merged_content : Addr} {od_Merged_content an_Merged_content : Option Addr} {sl_Merged_content : Array (Option Value)} {oc_Merged_content kV_Merged_content dc_Merged_content pm_Merged_content cd_Merged_content ct_Merged_content : Value}
    {f_Merged_told : Addr} {od_Merged_told an_Merged_told : Option Addr} {sl_Merged_told : Array (Option Value)} {oc_Merged_told kV_Merged_told dc_Merged_told pm_Merged_told  ct_Merged_told : Value}
    {cd_Merged_told cx_Merged_told : Addr} {cl2_Merged_told ccl_Merged_told : Value} {cld_Merged_told cdd_Merged_told : Option Addr} {csl_Merged_told ccs_Merged_told : Array (Option Value)} {vs_Merged_told : Array Value} {tf_Merged_told : Tok}
    {f_Missed_XinitX : Addr} {od_Missed_XinitX an_Missed_XinitX : Option Addr} {sl_Missed_XinitX : Array (Option Value)} {oc_Missed_XinitX kV_Missed_XinitX dc_Missed_XinitX pm_Missed_XinitX cd_Missed_XinitX ct_Missed_XinitX : Value}
    {f_Missed_content : Addr} {od_Missed_content an_Missed_content : Option Addr} {sl_Missed_content : Array (Option Value)} {oc_Missed_content kV_Missed_content dc_Missed_content pm_Missed_content cd_Missed_content ct_Missed_content : Value}
    {f_Missed_told : Addr} {od_Missed_told an_Missed_told : Option Addr} {sl_Missed_told : Array (Option Value)} {oc_Missed_told kV_Missed_told dc_Missed_told pm_Missed_told  ct_Missed_told : Value}
    {cd_Missed_told cx_Missed_told : Addr} {cl2_Missed_told ccl_Missed_told : Value} {cld_Missed_told cdd_Missed_told : Option Addr} {csl_Missed_told ccs_Missed_told : Array (Option Value)} {vs_Missed_told : Array Value} {tf_Missed_told : Tok}
    {f_law_source : Addr} {od_law_source an_law_source : Option Addr} {sl_law_source : Array (Option Value)} {oc_law_source kV_law_source dc_law_source pm_law_source cd_law_source ct_law_source : Value}
    {f_law_draw : Addr} {od_law_draw an_law_draw : Option Addr} {sl_law_draw : Array (Option Value)} {oc_law_draw kV_law_draw dc_law_draw pm_law_draw cd_law_draw ct_law_draw : Value}
    {f_law : Addr} {od_law an_law : Option Addr} {sl_law : Array (Option Value)} {oc_law kV_law dc_law pm_law cd_law ct_law : Value}
    {u_Outcome_KIND : Value}
    {u_Placed_KIND : Value}
    {u_Merged_KIND : Value}
    {u_Missed_KIND : Value}
    (zisinstance : PySem.W.nsIn K mainGlobals "isinstance" = some none)
    (zlen : PySem.W.nsIn K mainGlobals "len" = some none)
    (zmax : PySem.W.nsIn K mainGlobals "max" = some none)
    (zmin : PySem.W.nsIn K mainGlobals "min" = some none)
    (zrange : PySem.W.nsIn K mainGlobals "range" = some none)
    (zstr : PySem.W.nsIn K mainGlobals "str" = some none)
    (hnx : PySem.W.specialIn K (.builtin "object.__class__") "__get__" = some (some (.builtin "getset_descriptor.__get__")))
    (tkx : PySem.W.takesIn K (.builtin "object.__class__") = some true)
    (mgx_Outcome : PySem.W.nsIn K mainGlobals "Outcome" = some (some (.ref c_Outcome)))
    (pg_Outcome : PySem.W.plainGet K c_Outcome Str.empty = true)
    (hd_Outcome : PySem.W.hasDictIn K c_Outcome = true)
    (po_Outcome : PySem.W.plainOver K c_Outcome = true)
    (sa_Outcome : PySem.W.findIn K (.ref c_Outcome) "__setattr__" = some (some (.builtin "object.__setattr__")))
    (oc_Outcome : PySem.W.findIn K (.ref c_Outcome) "__class__" = some (some (.builtin "object.__class__")))
    (om_Outcome : PySem.W.mroIn K c_Outcome (.type "object") = some true)
    (ic_Outcome : PySem.W.isClsIn K c_Outcome = true)
    (tc_Outcome : PySem.W.typeIn K (.ref c_Outcome) = some (.type "type"))
    (mk1_Outcome : PySem.W.makesIn K c_Outcome = true)
    (kc_Outcome : PySem.W.keepIn K (.ref c_Outcome) = true)
    (mi_Outcome : PySem.W.findIn K (.ref c_Outcome) "__init__" = some (some (.builtin "object.__init__")))
    (mgx_Placed : PySem.W.nsIn K mainGlobals "Placed" = some (some (.ref c_Placed)))
    (pg_Placed : PySem.W.plainGet K c_Placed Str.empty = true)
    (hd_Placed : PySem.W.hasDictIn K c_Placed = true)
    (po_Placed : PySem.W.plainOver K c_Placed = true)
    (sa_Placed : PySem.W.findIn K (.ref c_Placed) "__setattr__" = some (some (.builtin "object.__setattr__")))
    (oc_Placed : PySem.W.findIn K (.ref c_Placed) "__class__" = some (some (.builtin "object.__class__")))
    (om_Placed : PySem.W.mroIn K c_Placed (.type "object") = some true)
    (ic_Placed : PySem.W.isClsIn K c_Placed = true)
    (tc_Placed : PySem.W.typeIn K (.ref c_Placed) = some (.type "type"))
    (mk1_Placed : PySem.W.makesIn K c_Placed = true)
    (kc_Placed : PySem.W.keepIn K (.ref c_Placed) = true)
    (na_Placed_at : PySem.W.findIn K (.ref c_Placed) "at" = some none)
    (mgx_Merged : PySem.W.nsIn K mainGlobals "Merged" = some (some (.ref c_Merged)))
    (pg_Merged : PySem.W.plainGet K c_Merged Str.empty = true)
    (hd_Merged : PySem.W.hasDictIn K c_Merged = true)
    (po_Merged : PySem.W.plainOver K c_Merged = true)
    (sa_Merged : PySem.W.findIn K (.ref c_Merged) "__setattr__" = some (some (.builtin "object.__setattr__")))
    (oc_Merged : PySem.W.findIn K (.ref c_Merged) "__class__" = some (some (.builtin "object.__class__")))
    (om_Merged : PySem.W.mroIn K c_Merged (.type "object") = some true)
    (ic_Merged : PySem.W.isClsIn K c_Merged = true)
    (tc_Merged : PySem.W.typeIn K (.ref c_Merged) = some (.type "type"))
    (mk1_Merged : PySem.W.makesIn K c_Merged = true)
    (kc_Merged : PySem.W.keepIn K (.ref c_Merged) = true)
    (na_Merged_at : PySem.W.findIn K (.ref c_Merged) "at" = some none)
    (mgx_Missed : PySem.W.nsIn K mainGlobals "Missed" = some (some (.ref c_Missed)))
    (pg_Missed : PySem.W.plainGet K c_Missed Str.empty = true)
    (hd_Missed : PySem.W.hasDictIn K c_Missed = true)
    (po_Missed : PySem.W.plainOver K c_Missed = true)
    (sa_Missed : PySem.W.findIn K (.ref c_Missed) "__setattr__" = some (some (.builtin "object.__setattr__")))
    (oc_Missed : PySem.W.findIn K (.ref c_Missed) "__class__" = some (some (.builtin "object.__class__")))
    (om_Missed : PySem.W.mroIn K c_Missed (.type "object") = some true)
    (ic_Missed : PySem.W.isClsIn K c_Missed = true)
    (tc_Missed : PySem.W.typeIn K (.ref c_Missed) = some (.type "type"))
    (mk1_Missed : PySem.W.makesIn K c_Missed = true)
    (kc_Missed : PySem.W.keepIn K (.ref c_Missed) = true)
    (na_Missed_at : PySem.W.findIn K (.ref c_Missed) "at" = some none)
    (na_Missed_line : PySem.W.findIn K (.ref c_Missed) "line" = some none)
    (a_Outcome_told : PySem.W.findIn K (.ref c_Outcome) "told" = some (some (.ref f_Outcome_told)))
    (l_Outcome_told : K.lookup f_Outcome_told = some ⟨oc_Outcome_told, od_Outcome_told, .func (PySem.W.fnOf "told" "Outcome.told" (defArgs s_Outcome_told) (defBody s_Outcome_told) (defScope s_Outcome_told) .none kV_Outcome_told dc_Outcome_told pm_Outcome_told an_Outcome_told cd_Outcome_told ct_Outcome_told), sl_Outcome_told⟩)
    (c_Outcome_told : PySem.W.codeIn K cd_Outcome_told "Outcome.told" = true)
    (k_Outcome_told : PySem.W.keepIn K (.ref f_Outcome_told) = true)
    (fn_Outcome_told : PySem.W.isFn K (.ref f_Outcome_told) = true)
    (fi_Outcome_told : PySem.W.fnIn K f_Outcome_told = true)
    (a_Outcome_content : PySem.W.findIn K (.ref c_Outcome) "content" = some (some (.ref f_Outcome_content)))
    (l_Outcome_content : K.lookup f_Outcome_content = some ⟨oc_Outcome_content, od_Outcome_content, .func (PySem.W.fnOf "content" "Outcome.content" (defArgs s_Outcome_content) (defBody s_Outcome_content) (defScope s_Outcome_content) .none kV_Outcome_content dc_Outcome_content pm_Outcome_content an_Outcome_content cd_Outcome_content ct_Outcome_content), sl_Outcome_content⟩)
    (c_Outcome_content : PySem.W.codeIn K cd_Outcome_content "Outcome.content" = true)
    (k_Outcome_content : PySem.W.keepIn K (.ref f_Outcome_content) = true)
    (fn_Outcome_content : PySem.W.isFn K (.ref f_Outcome_content) = true)
    (fi_Outcome_content : PySem.W.fnIn K f_Outcome_content = true)
    (a_Outcome_XeqX : PySem.W.findIn K (.ref c_Outcome) "__eq__" = some (some (.ref f_Outcome_XeqX)))
    (l_Outcome_XeqX : K.lookup f_Outcome_XeqX = some ⟨oc_Outcome_XeqX, od_Outcome_XeqX, .func (PySem.W.fnOf "__eq__" "Outcome.__eq__" (defArgs s_Outcome_XeqX) (defBody s_Outcome_XeqX) (defScope s_Outcome_XeqX) .none kV_Outcome_XeqX dc_Outcome_XeqX pm_Outcome_XeqX an_Outcome_XeqX cd_Outcome_XeqX ct_Outcome_XeqX), sl_Outcome_XeqX⟩)
    (c_Outcome_XeqX : PySem.W.codeIn K cd_Outcome_XeqX "Outcome.__eq__" = true)
    (k_Outcome_XeqX : PySem.W.keepIn K (.ref f_Outcome_XeqX) = true)
    (fn_Outcome_XeqX : PySem.W.isFn K (.ref f_Outcome_XeqX) = true)
    (fi_Outcome_XeqX : PySem.W.fnIn K f_Outcome_XeqX = true)
    (a_Placed_XinitX : PySem.W.findIn K (.ref c_Placed) "__init__" = some (some (.ref f_Placed_XinitX)))
    (l_Placed_XinitX : K.lookup f_Placed_XinitX = some ⟨oc_Placed_XinitX, od_Placed_XinitX, .func (PySem.W.fnOf "__init__" "Placed.__init__" (defArgs s_Placed_XinitX) (defBody s_Placed_XinitX) (defScope s_Placed_XinitX) .none kV_Placed_XinitX dc_Placed_XinitX pm_Placed_XinitX an_Placed_XinitX cd_Placed_XinitX ct_Placed_XinitX), sl_Placed_XinitX⟩)
    (c_Placed_XinitX : PySem.W.codeIn K cd_Placed_XinitX "Placed.__init__" = true)
    (k_Placed_XinitX : PySem.W.keepIn K (.ref f_Placed_XinitX) = true)
    (fn_Placed_XinitX : PySem.W.isFn K (.ref f_Placed_XinitX) = true)
    (fi_Placed_XinitX : PySem.W.fnIn K f_Placed_XinitX = true)
    (a_Placed_content : PySem.W.findIn K (.ref c_Placed) "content" = some (some (.ref f_Placed_content)))
    (l_Placed_content : K.lookup f_Placed_content = some ⟨oc_Placed_content, od_Placed_content, .func (PySem.W.fnOf "content" "Placed.content" (defArgs s_Placed_content) (defBody s_Placed_content) (defScope s_Placed_content) .none kV_Placed_content dc_Placed_content pm_Placed_content an_Placed_content cd_Placed_content ct_Placed_content), sl_Placed_content⟩)
    (c_Placed_content : PySem.W.codeIn K cd_Placed_content "Placed.content" = true)
    (k_Placed_content : PySem.W.keepIn K (.ref f_Placed_content) = true)
    (fn_Placed_content : PySem.W.isFn K (.ref f_Placed_content) = true)
    (fi_Placed_content : PySem.W.fnIn K f_Placed_content = true)
    (a_Placed_told : PySem.W.findIn K (.ref c_Placed) "told" = some (some (.ref f_Placed_told)))
    (l_Placed_told : K.lookup f_Placed_told = some ⟨oc_Placed_told, od_Placed_told, .func (PySem.W.ksFn "told" "Placed.told" (defArgs s_Placed_told) (defBody s_Placed_told) (defScope s_Placed_told) .none kV_Placed_told dc_Placed_told pm_Placed_told an_Placed_told (.ref cd_Placed_told) ct_Placed_told cx_Placed_told), sl_Placed_told⟩)
    (c_Placed_told : PySem.W.codeIn K (.ref cd_Placed_told) "Placed.told" = true)
    (ce_Placed_told : K.lookup cx_Placed_told = some ⟨cl2_Placed_told, cld_Placed_told, .cell (some (.ref c_Placed)), csl_Placed_told⟩)
    (co_Placed_told : K.lookup cd_Placed_told = some ⟨ccl_Placed_told, cdd_Placed_told, .fields vs_Placed_told, ccs_Placed_told⟩)
    (vf_Placed_told : vs_Placed_told[2]? = some (.str PySem.Challenge.pw_sourcequeue_k11_outcomes.main.file tf_Placed_told))
    (k_Placed_told : PySem.W.keepIn K (.ref f_Placed_told) = true)
    (fn_Placed_told : PySem.W.isFn K (.ref f_Placed_told) = true)
    (fi_Placed_told : PySem.W.fnIn K f_Placed_told = true)
    (a_Merged_XinitX : PySem.W.findIn K (.ref c_Merged) "__init__" = some (some (.ref f_Merged_XinitX)))
    (l_Merged_XinitX : K.lookup f_Merged_XinitX = some ⟨oc_Merged_XinitX, od_Merged_XinitX, .func (PySem.W.fnOf "__init__" "Merged.__init__" (defArgs s_Merged_XinitX) (defBody s_Merged_XinitX) (defScope s_Merged_XinitX) .none kV_Merged_XinitX dc_Merged_XinitX pm_Merged_XinitX an_Merged_XinitX cd_Merged_XinitX ct_Merged_XinitX), sl_Merged_XinitX⟩)
    (c_Merged_XinitX : PySem.W.codeIn K cd_Merged_XinitX "Merged.__init__" = true)
    (k_Merged_XinitX : PySem.W.keepIn K (.ref f_Merged_XinitX) = true)
    (fn_Merged_XinitX : PySem.W.isFn K (.ref f_Merged_XinitX) = true)
    (fi_Merged_XinitX : PySem.W.fnIn K f_Merged_XinitX = true)
    (a_Merged_content : PySem.W.findIn K (.ref c_Merged) "content" = some (some (.ref f_Merged_content)))
    (l_Merged_content : K.lookup f_Merged_content = some ⟨oc_Merged_content, od_Merged_content, .func (PySem.W.fnOf "content" "Merged.content" (defArgs s_Merged_content) (defBody s_Merged_content) (defScope s_Merged_content) .none kV_Merged_content dc_Merged_content pm_Merged_content an_Merged_content cd_Merged_content ct_Merged_content), sl_Merged_content⟩)
    (c_Merged_content : PySem.W.codeIn K cd_Merged_content "Merged.content" = true)
    (k_Merged_content : PySem.W.keepIn K (.ref f_Merged_content) = true)
    (fn_Merged_content : PySem.W.isFn K (.ref f_Merged_content) = true)
    (fi_Merged_content : PySem.W.fnIn K f_Merged_content = true)
    (a_Merged_told : PySem.W.findIn K (.ref c_Merged) "told" = some (some (.ref f_Merged_told)))
    (l_Merged_told : K.lookup f_Merged_told = some ⟨oc_Merged_told, od_Merged_told, .func (PySem.W.ksFn "told" "Merged.told" (defArgs s_Merged_told) (defBody s_Merged_told) (defScope s_Merged_told) .none kV_Merged_told dc_Merged_told pm_Merged_told an_Merged_told (.ref cd_Merged_told) ct_Merged_told cx_Merged_told), sl_Merged_told⟩)
    (c_Merged_told : PySem.W.codeIn K (.ref cd_Merged_told) "Merged.told" = true)
    (ce_Merged_told : K.lookup cx_Merged_told = some ⟨cl2_Merged_told, cld_Merged_told, .cell (some (.ref c_Merged)), csl_Merged_told⟩)
    (co_Merged_told : K.lookup cd_Merged_told = some ⟨ccl_Merged_told, cdd_Merged_told, .fields vs_Merged_told, ccs_Merged_told⟩)
    (vf_Merged_told : vs_Merged_told[2]? = some (.str PySem.Challenge.pw_sourcequeue_k11_outcomes.main.file tf_Merged_told))
    (k_Merged_told : PySem.W.keepIn K (.ref f_Merged_told) = true)
    (fn_Merged_told : PySem.W.isFn K (.ref f_Merged_told) = true)
    (fi_Merged_told : PySem.W.fnIn K f_Merged_told = true)
    (a_Missed_XinitX : PySem.W.findIn K (.ref c_Missed) "__init__" = some (some (.ref f_Missed_XinitX)))
    (l_Missed_XinitX : K.lookup f_Missed_XinitX = some ⟨oc_Missed_XinitX, od_Missed_XinitX, .func (PySem.W.fnOf "__init__" "Missed.__init__" (defArgs s_Missed_XinitX) (defBody s_Missed_XinitX) (defScope s_Missed_XinitX) .none kV_Missed_XinitX dc_Missed_XinitX pm_Missed_XinitX an_Missed_XinitX cd_Missed_XinitX ct_Missed_XinitX), sl_Missed_XinitX⟩)
    (c_Missed_XinitX : PySem.W.codeIn K cd_Missed_XinitX "Missed.__init__" = true)
    (k_Missed_XinitX : PySem.W.keepIn K (.ref f_Missed_XinitX) = true)
    (fn_Missed_XinitX : PySem.W.isFn K (.ref f_Missed_XinitX) = true)
    (fi_Missed_XinitX : PySem.W.fnIn K f_Missed_XinitX = true)
    (a_Missed_content : PySem.W.findIn K (.ref c_Missed) "content" = some (some (.ref f_Missed_content)))
    (l_Missed_content : K.lookup f_Missed_content = some ⟨oc_Missed_content, od_Missed_content, .func (PySem.W.fnOf "content" "Missed.content" (defArgs s_Missed_content) (defBody s_Missed_content) (defScope s_Missed_content) .none kV_Missed_content dc_Missed_content pm_Missed_content an_Missed_content cd_Missed_content ct_Missed_content), sl_Missed_content⟩)
    (c_Missed_content : PySem.W.codeIn K cd_Missed_content "Missed.content" = true)
    (k_Missed_content : PySem.W.keepIn K (.ref f_Missed_content) = true)
    (fn_Missed_content : PySem.W.isFn K (.ref f_Missed_content) = true)
    (fi_Missed_content : PySem.W.fnIn K f_Missed_content = true)
    (a_Missed_told : PySem.W.findIn K (.ref c_Missed) "told" = some (some (.ref f_Missed_told)))
    (l_Missed_told : K.lookup f_Missed_told = some ⟨oc_Missed_told, od_Missed_told, .func (PySem.W.ksFn "told" "Missed.told" (defArgs s_Missed_told) (defBody s_Missed_told) (defScope s_Missed_told) .none kV_Missed_told dc_Missed_told pm_Missed_told an_Missed_told (.ref cd_Missed_told) ct_Missed_told cx_Missed_told), sl_Missed_told⟩)
    (c_Missed_told : PySem.W.codeIn K (.ref cd_Missed_told) "Missed.told" = true)
    (ce_Missed_told : K.lookup cx_Missed_told = some ⟨cl2_Missed_told, cld_Missed_told, .cell (some (.ref c_Missed)), csl_Missed_told⟩)
    (co_Missed_told : K.lookup cd_Missed_told = some ⟨ccl_Missed_told, cdd_Missed_told, .fields vs_Missed_told, ccs_Missed_told⟩)
    (vf_Missed_told : vs_Missed_told[2]? = some (.str PySem.Challenge.pw_sourcequeue_k11_outcomes.main.file tf_Missed_told))
    (k_Missed_told : PySem.W.keepIn K (.ref f_Missed_told) = true)
    (fn_Missed_told : PySem.W.isFn K (.ref f_Missed_told) = true)
    (fi_Missed_told : PySem.W.fnIn K f_Missed_told = true)
    (a_law_source : PySem.W.nsIn K mainGlobals "_law_source" = some (some (.ref f_law_source)))
    (l_law_source : K.lookup f_law_source = some ⟨oc_law_source, od_law_source, .func (PySem.W.fnOf "_law_source" "_law_source" (defArgs s_law_source) (defBody s_law_source) (defScope s_law_source) .none kV_law_source dc_law_source pm_law_source an_law_source cd_law_source ct_law_source), sl_law_source⟩)
    (c_law_source : PySem.W.codeIn K cd_law_source "_law_source" = true)
    (k_law_source : PySem.W.keepIn K (.ref f_law_source) = true)
    (a_law_draw : PySem.W.nsIn K mainGlobals "_law_draw" = some (some (.ref f_law_draw)))
    (l_law_draw : K.lookup f_law_draw = some ⟨oc_law_draw, od_law_draw, .func (PySem.W.fnOf "_law_draw" "_law_draw" (defArgs s_law_draw) (defBody s_law_draw) (defScope s_law_draw) .none kV_law_draw dc_law_draw pm_law_draw an_law_draw cd_law_draw ct_law_draw), sl_law_draw⟩)
    (c_law_draw : PySem.W.codeIn K cd_law_draw "_law_draw" = true)
    (k_law_draw : PySem.W.keepIn K (.ref f_law_draw) = true)
    (a_law : PySem.W.nsIn K mainGlobals "law" = some (some (.ref f_law)))
    (l_law : K.lookup f_law = some ⟨oc_law, od_law, .func (PySem.W.fnOf "law" "law" (defArgs s_law) (defBody s_law) (defScope s_law) .none kV_law dc_law pm_law an_law cd_law ct_law), sl_law⟩)
    (c_law : PySem.W.codeIn K cd_law "law" = true)
    (k_law : PySem.W.keepIn K (.ref f_law) = true)
    (zsuper : PySem.W.nsIn K mainGlobals "super" = some none)
    (zany : PySem.W.nsIn K cStatics "thirdparty.any" = some none)
    (co1_Outcome_KIND : PySem.W.findIn K (.ref c_Outcome) "KIND" = some (some u_Outcome_KIND))
    (co2_Outcome_KIND : RelV (.str "none") u_Outcome_KIND)
    (co3_Outcome_KIND : PySem.W.specialIn K u_Outcome_KIND "__get__" = some none)
    (co4_Outcome_KIND : PySem.W.copiedNames.contains "KIND" = false)
    (me_Placed_XeqX : PySem.W.findIn K (.ref c_Placed) "__eq__" = some (some (.ref f_Outcome_XeqX)))
    (co1_Placed_KIND : PySem.W.findIn K (.ref c_Placed) "KIND" = some (some u_Placed_KIND))
    (co2_Placed_KIND : RelV (.str "placed") u_Placed_KIND)
    (co3_Placed_KIND : PySem.W.specialIn K u_Placed_KIND "__get__" = some none)
    (co4_Placed_KIND : PySem.W.copiedNames.contains "KIND" = false)
    (me_Merged_XeqX : PySem.W.findIn K (.ref c_Merged) "__eq__" = some (some (.ref f_Outcome_XeqX)))
    (co1_Merged_KIND : PySem.W.findIn K (.ref c_Merged) "KIND" = some (some u_Merged_KIND))
    (co2_Merged_KIND : RelV (.str "merged") u_Merged_KIND)
    (co3_Merged_KIND : PySem.W.specialIn K u_Merged_KIND "__get__" = some none)
    (co4_Merged_KIND : PySem.W.copiedNames.contains "KIND" = false)
    (me_Missed_XeqX : PySem.W.findIn K (.ref c_Missed) "__eq__" = some (some (.ref f_Outcome_XeqX)))
    (co1_Missed_KIND : PySem.W.findIn K (.ref c_Missed) "KIND" = some (some u_Missed_KIND))
    (co2_Missed_KIND : RelV (.str "missed") u_Missed_KIND)
    (co3_Missed_KIND : PySem.W.specialIn K u_Missed_KIND "__get__" = some none)
    (co4_Missed_KIND : PySem.W.copiedNames.contains "KIND" = false)
    (ne_Outcome : PySem.W.findIn K (.ref c_Outcome) "__ne__" = some (some (.builtin "object.__ne__")))
    (su_Outcome : PySem.W.subIn K (.ref c_Outcome) (.ref c_Outcome) = some true)
    (ns_Outcome : PySem.W.notFirst K c_Outcome (.type "str") = true)
    (nf_Outcome_Outcome : PySem.W.notFirst K c_Outcome (.ref c_Outcome) = true)
    (ne_Placed : PySem.W.findIn K (.ref c_Placed) "__ne__" = some (some (.builtin "object.__ne__")))
    (su_Placed : PySem.W.subIn K (.ref c_Placed) (.ref c_Outcome) = some true)
    (ns_Placed : PySem.W.notFirst K c_Placed (.type "str") = true)
    (sp_Placed : PySem.W.ks_superIn K c_Placed c_Placed "told" = some (some (.ref f_Outcome_told)))
    (mr_Placed : PySem.W.mroIn K c_Placed (.ref c_Placed) = some true)
    (nq_Placed : c_Placed ≠ c_Outcome)
    (nf_Placed_Outcome : PySem.W.notFirst K c_Placed (.ref c_Outcome) = true)
    (nf_Placed_Placed : PySem.W.notFirst K c_Placed (.ref c_Placed) = true)
    (nf_Placed_Merged : PySem.W.notFirst K c_Placed (.ref c_Merged) = true)
    (nf_Placed_Missed : PySem.W.notFirst K c_Placed (.ref c_Missed) = true)
    (ne_Merged : PySem.W.findIn K (.ref c_Merged) "__ne__" = some (some (.builtin "object.__ne__")))
    (su_Merged : PySem.W.subIn K (.ref c_Merged) (.ref c_Outcome) = some true)
    (ns_Merged : PySem.W.notFirst K c_Merged (.type "str") = true)
    (sp_Merged : PySem.W.ks_superIn K c_Merged c_Merged "told" = some (some (.ref f_Outcome_told)))
    (mr_Merged : PySem.W.mroIn K c_Merged (.ref c_Merged) = some true)
    (nq_Merged : c_Merged ≠ c_Outcome)
    (nf_Merged_Outcome : PySem.W.notFirst K c_Merged (.ref c_Outcome) = true)
    (nf_Merged_Placed : PySem.W.notFirst K c_Merged (.ref c_Placed) = true)
    (nf_Merged_Merged : PySem.W.notFirst K c_Merged (.ref c_Merged) = true)
    (nf_Merged_Missed : PySem.W.notFirst K c_Merged (.ref c_Missed) = true)
    (ne_Missed : PySem.W.findIn K (.ref c_Missed) "__ne__" = some (some (.builtin "object.__ne__")))
    (su_Missed : PySem.W.subIn K (.ref c_Missed) (.ref c_Outcome) = some true)
    (ns_Missed : PySem.W.notFirst K c_Missed (.type "str") = true)
    (sp_Missed : PySem.W.ks_superIn K c_Missed c_Missed "told" = some (some (.ref f_Outcome_told)))
    (mr_Missed : PySem.W.mroIn K c_Missed (.ref c_Missed) = some true)
    (nq_Missed : c_Missed ≠ c_Outcome)
    (nf_Missed_Outcome : PySem.W.notFirst K c_Missed (.ref c_Outcome) = true)
    (nf_Missed_Placed : PySem.W.notFirst K c_Missed (.ref c_Placed) = true)
    (nf_Missed_Merged : PySem.W.notFirst K c_Missed (.ref c_Merged) = true)
    (nf_Missed_Missed : PySem.W.notFirst K c_Missed (.ref c_Missed) = true)
    (ss : PySem.W.subIn K (.type "str") (.ref c_Outcome) = some false) :
    ∃ ad : Ad, Txt PySem.Challenge.pw_sourcequeue_k11_outcomes K mg ad ∧ ad.a_law = fa := by
  have e : fa = f_law := Value.ref.inj (Option.some.inj (hfa.symm.trans (PySem.W.mg_of X G a_law)))
  refine ⟨{ c_Outcome := c_Outcome, c_Placed := c_Placed, c_Merged := c_Merged, c_Missed := c_Missed, a_Outcome_told := f_Outcome_told, d_Outcome_told := PySem.W.fnOf "told" "Outcome.told" (defArgs s_Outcome_told) (defBody s_Outcome_told) (defScope s_Outcome_told) .none kV_Outcome_told dc_Outcome_told pm_Outcome_told an_Outcome_told cd_Outcome_told ct_Outcome_told, a_Outcome_content := f_Outcome_content, d_Outcome_content := PySem.W.fnOf "content" "Outcome.content" (defArgs s_Outcome_content) (defBody s_Outcome_content) (defScope s_Outcome_content) .none kV_Outcome_content dc_Outcome_content pm_Outcome_content an_Outcome_content cd_Outcome_content ct_Outcome_content, a_Outcome_XeqX := f_Outcome_XeqX, d_Outcome_XeqX := PySem.W.fnOf "__eq__" "Outcome.__eq__" (defArgs s_Outcome_XeqX) (defBody s_Outcome_XeqX) (defScope s_Outcome_XeqX) .none kV_Outcome_XeqX dc_Outcome_XeqX pm_Outcome_XeqX an_Outcome_XeqX cd_Outcome_XeqX ct_Outcome_XeqX, a_Placed_XinitX := f_Placed_XinitX, d_Placed_XinitX := PySem.W.fnOf "__init__" "Placed.__init__" (defArgs s_Placed_XinitX) (defBody s_Placed_XinitX) (defScope s_Placed_XinitX) .none kV_Placed_XinitX dc_Placed_XinitX pm_Placed_XinitX an_Placed_XinitX cd_Placed_XinitX ct_Placed_XinitX, a_Placed_content := f_Placed_content, d_Placed_content := PySem.W.fnOf "content" "Placed.content" (defArgs s_Placed_content) (defBody s_Placed_content) (defScope s_Placed_content) .none kV_Placed_content dc_Placed_content pm_Placed_content an_Placed_content cd_Placed_content ct_Placed_content, a_Placed_told := f_Placed_told, d_Placed_told := PySem.W.ksFn "told" "Placed.told" (defArgs s_Placed_told) (defBody s_Placed_told) (defScope s_Placed_told) .none kV_Placed_told dc_Placed_told pm_Placed_told an_Placed_told (.ref cd_Placed_told) ct_Placed_told cx_Placed_told, cd_Placed_told := cd_Placed_told, a_Merged_XinitX := f_Merged_XinitX, d_Merged_XinitX := PySem.W.fnOf "__init__" "Merged.__init__" (defArgs s_Merged_XinitX) (defBody s_Merged_XinitX) (defScope s_Merged_XinitX) .none kV_Merged_XinitX dc_Merged_XinitX pm_Merged_XinitX an_Merged_XinitX cd_Merged_XinitX ct_Merged_XinitX, a_Merged_content := f_Merged_content, d_Merged_content := PySem.W.fnOf "content" "Merged.content" (defArgs s_Merged_content) (defBody s_Merged_content) (defScope s_Merged_content) .none kV_Merged_content dc_Merged_content pm_Merged_content an_Merged_content cd_Merged_content ct_Merged_content, a_Merged_told := f_Merged_told, d_Merged_told := PySem.W.ksFn "told" "Merged.told" (defArgs s_Merged_told) (defBody s_Merged_told) (defScope s_Merged_told) .none kV_Merged_told dc_Merged_told pm_Merged_told an_Merged_told (.ref cd_Merged_told) ct_Merged_told cx_Merged_told, cd_Merged_told := cd_Merged_told, a_Missed_XinitX := f_Missed_XinitX, d_Missed_XinitX := PySem.W.fnOf "__init__" "Missed.__init__" (defArgs s_Missed_XinitX) (defBody s_Missed_XinitX) (defScope s_Missed_XinitX) .none kV_Missed_XinitX dc_Missed_XinitX pm_Missed_XinitX an_Missed_XinitX cd_Missed_XinitX ct_Missed_XinitX, a_Missed_content := f_Missed_content, d_Missed_content := PySem.W.fnOf "content" "Missed.content" (defArgs s_Missed_content) (defBody s_Missed_content) (defScope s_Missed_content) .none kV_Missed_content dc_Missed_content pm_Missed_content an_Missed_content cd_Missed_content ct_Missed_content, a_Missed_told := f_Missed_told, d_Missed_told := PySem.W.ksFn "told" "Missed.told" (defArgs s_Missed_told) (defBody s_Missed_told) (defScope s_Missed_told) .none kV_Missed_told dc_Missed_told pm_Missed_told an_Missed_told (.ref cd_Missed_told) ct_Missed_told cx_Missed_told, cd_Missed_told := cd_Missed_told, a_law_source := f_law_source, d_law_source := PySem.W.fnOf "_law_source" "_law_source" (defArgs s_law_source) (defBody s_law_source) (defScope s_law_source) .none kV_law_source dc_law_source pm_law_source an_law_source cd_law_source ct_law_source, a_law_draw := f_law_draw, d_law_draw := PySem.W.fnOf "_law_draw" "_law_draw" (defArgs s_law_draw) (defBody s_law_draw) (defScope s_law_draw) .none kV_law_draw dc_law_draw pm_law_draw an_law_draw cd_law_draw ct_law_draw, a_law := f_law, d_law := PySem.W.fnOf "law" "law" (defArgs s_law) (defBody s_law) (defScope s_law) .none kV_law dc_law pm_law an_law cd_law ct_law }, ?_, e.symm⟩
  exact {
    n_isinstance := PySem.W.mg_none_of X G zisinstance,
    n_len := PySem.W.mg_none_of X G zlen,
    n_max := PySem.W.mg_none_of X G zmax,
    n_min := PySem.W.mg_none_of X G zmin,
    n_range := PySem.W.mg_none_of X G zrange,
    n_str := PySem.W.mg_none_of X G zstr,
    hnx := hnx,
    tkx := tkx,
    mg_Outcome := PySem.W.mg_of X G mgx_Outcome,
    cl_Outcome := ⟨⟨pg_Outcome, hd_Outcome, po_Outcome, sa_Outcome⟩, oc_Outcome, hnx, tkx, om_Outcome, ic_Outcome, tc_Outcome⟩,
    mn_Outcome := ⟨mk1_Outcome, mi_Outcome, kc_Outcome⟩,
    me_Outcome_told := ⟨a_Outcome_told, fn_Outcome_told, k_Outcome_told⟩,
    me_Outcome_content := ⟨a_Outcome_content, fn_Outcome_content, k_Outcome_content⟩,
    me_Outcome_XeqX := ⟨a_Outcome_XeqX, fn_Outcome_XeqX, k_Outcome_XeqX⟩,
    co_Outcome_KIND := ⟨_, co1_Outcome_KIND, co2_Outcome_KIND, co3_Outcome_KIND, co4_Outcome_KIND⟩,
    mg_Placed := PySem.W.mg_of X G mgx_Placed,
    cl_Placed := ⟨⟨pg_Placed, hd_Placed, po_Placed, sa_Placed⟩, oc_Placed, hnx, tkx, om_Placed, ic_Placed, tc_Placed⟩,
    mk_Placed := ⟨mk1_Placed, a_Placed_XinitX, fn_Placed_XinitX, kc_Placed⟩,
    na_Placed_at := na_Placed_at,
    me_Placed_told := ⟨a_Placed_told, fn_Placed_told, k_Placed_told⟩,
    me_Placed_content := ⟨a_Placed_content, fn_Placed_content, k_Placed_content⟩,
    me_Placed_XeqX := ⟨me_Placed_XeqX, fn_Outcome_XeqX, k_Outcome_XeqX⟩,
    me_Placed_XinitX := ⟨a_Placed_XinitX, fn_Placed_XinitX, k_Placed_XinitX⟩,
    co_Placed_KIND := ⟨_, co1_Placed_KIND, co2_Placed_KIND, co3_Placed_KIND, co4_Placed_KIND⟩,
    mg_Merged := PySem.W.mg_of X G mgx_Merged,
    cl_Merged := ⟨⟨pg_Merged, hd_Merged, po_Merged, sa_Merged⟩, oc_Merged, hnx, tkx, om_Merged, ic_Merged, tc_Merged⟩,
    mk_Merged := ⟨mk1_Merged, a_Merged_XinitX, fn_Merged_XinitX, kc_Merged⟩,
    na_Merged_at := na_Merged_at,
    me_Merged_told := ⟨a_Merged_told, fn_Merged_told, k_Merged_told⟩,
    me_Merged_content := ⟨a_Merged_content, fn_Merged_content, k_Merged_content⟩,
    me_Merged_XeqX := ⟨me_Merged_XeqX, fn_Outcome_XeqX, k_Outcome_XeqX⟩,
    me_Merged_XinitX := ⟨a_Merged_XinitX, fn_Merged_XinitX, k_Merged_XinitX⟩,
    co_Merged_KIND := ⟨_, co1_Merged_KIND, co2_Merged_KIND, co3_Merged_KIND, co4_Merged_KIND⟩,
    mg_Missed := PySem.W.mg_of X G mgx_Missed,
    cl_Missed := ⟨⟨pg_Missed, hd_Missed, po_Missed, sa_Missed⟩, oc_Missed, hnx, tkx, om_Missed, ic_Missed, tc_Missed⟩,
    mk_Missed := ⟨mk1_Missed, a_Missed_XinitX, fn_Missed_XinitX, kc_Missed⟩,
    na_Missed_at := na_Missed_at,
    na_Missed_line := na_Missed_line,
    me_Missed_told := ⟨a_Missed_told, fn_Missed_told, k_Missed_told⟩,
    me_Missed_content := ⟨a_Missed_content, fn_Missed_content, k_Missed_content⟩,
    me_Missed_XeqX := ⟨me_Missed_XeqX, fn_Outcome_XeqX, k_Outcome_XeqX⟩,
    me_Missed_XinitX := ⟨a_Missed_XinitX, fn_Missed_XinitX, k_Missed_XinitX⟩,
    co_Missed_KIND := ⟨_, co1_Missed_KIND, co2_Missed_KIND, co3_Missed_KIND, co4_Missed_KIND⟩,
    f_Outcome_told := fun_mk (st := s_Outcome_told) l_Outcome_told c_Outcome_told k_Outcome_told,
    b_Outcome_told := (fun_mk (st := s_Outcome_told) l_Outcome_told c_Outcome_told k_Outcome_told).binds (ps := ["self"]) fun _ _ _ _ _ _ us hl => match us, hl with | [_], _ => rfl,
    fn_Outcome_told := fn_Outcome_told,
    fi_Outcome_told := fi_Outcome_told,
    k_Outcome_told := k_Outcome_told,
    f_Outcome_content := fun_mk (st := s_Outcome_content) l_Outcome_content c_Outcome_content k_Outcome_content,
    b_Outcome_content := (fun_mk (st := s_Outcome_content) l_Outcome_content c_Outcome_content k_Outcome_content).binds (ps := ["self"]) fun _ _ _ _ _ _ us hl => match us, hl with | [_], _ => rfl,
    fn_Outcome_content := fn_Outcome_content,
    fi_Outcome_content := fi_Outcome_content,
    k_Outcome_content := k_Outcome_content,
    f_Outcome_XeqX := fun_mk (st := s_Outcome_XeqX) l_Outcome_XeqX c_Outcome_XeqX k_Outcome_XeqX,
    b_Outcome_XeqX := (fun_mk (st := s_Outcome_XeqX) l_Outcome_XeqX c_Outcome_XeqX k_Outcome_XeqX).binds (ps := ["self", "other"]) fun _ _ _ _ _ _ us hl => match us, hl with | [_, _], _ => rfl,
    fn_Outcome_XeqX := fn_Outcome_XeqX,
    fi_Outcome_XeqX := fi_Outcome_XeqX,
    k_Outcome_XeqX := k_Outcome_XeqX,
    f_Placed_XinitX := fun_mk (st := s_Placed_XinitX) l_Placed_XinitX c_Placed_XinitX k_Placed_XinitX,
    b_Placed_XinitX := (fun_mk (st := s_Placed_XinitX) l_Placed_XinitX c_Placed_XinitX k_Placed_XinitX).binds (ps := ["self", "at"]) fun _ _ _ _ _ _ us hl => match us, hl with | [_, _], _ => rfl,
    fn_Placed_XinitX := fn_Placed_XinitX,
    fi_Placed_XinitX := fi_Placed_XinitX,
    k_Placed_XinitX := k_Placed_XinitX,
    f_Placed_content := fun_mk (st := s_Placed_content) l_Placed_content c_Placed_content k_Placed_content,
    b_Placed_content := (fun_mk (st := s_Placed_content) l_Placed_content c_Placed_content k_Placed_content).binds (ps := ["self"]) fun _ _ _ _ _ _ us hl => match us, hl with | [_], _ => rfl,
    fn_Placed_content := fn_Placed_content,
    fi_Placed_content := fi_Placed_content,
    k_Placed_content := k_Placed_content,
    f_Placed_told := funS_mk (st := s_Placed_told) l_Placed_told c_Placed_told ce_Placed_told k_Placed_told,
    stx_Placed_told := ⟨⟨_, _, _, _, _, co_Placed_told, vf_Placed_told⟩, beq_self_eq_true _, rfl, PySem.W.mg_none_of X G zsuper, Option.isSome_iff_exists.mp ic_Placed, zany⟩,
    b_Placed_told := (funS_mk (st := s_Placed_told) l_Placed_told c_Placed_told ce_Placed_told k_Placed_told).binds (ps := ["self"]) fun _ _ _ _ _ _ us hl => match us, hl with | [_], _ => rfl,
    fn_Placed_told := fn_Placed_told,
    fi_Placed_told := fi_Placed_told,
    k_Placed_told := k_Placed_told,
    f_Merged_XinitX := fun_mk (st := s_Merged_XinitX) l_Merged_XinitX c_Merged_XinitX k_Merged_XinitX,
    b_Merged_XinitX := (fun_mk (st := s_Merged_XinitX) l_Merged_XinitX c_Merged_XinitX k_Merged_XinitX).binds (ps := ["self", "at"]) fun _ _ _ _ _ _ us hl => match us, hl with | [_, _], _ => rfl,
    fn_Merged_XinitX := fn_Merged_XinitX,
    fi_Merged_XinitX := fi_Merged_XinitX,
    k_Merged_XinitX := k_Merged_XinitX,
    f_Merged_content := fun_mk (st := s_Merged_content) l_Merged_content c_Merged_content k_Merged_content,
    b_Merged_content := (fun_mk (st := s_Merged_content) l_Merged_content c_Merged_content k_Merged_content).binds (ps := ["self"]) fun _ _ _ _ _ _ us hl => match us, hl with | [_], _ => rfl,
    fn_Merged_content := fn_Merged_content,
    fi_Merged_content := fi_Merged_content,
    k_Merged_content := k_Merged_content,
    f_Merged_told := funS_mk (st := s_Merged_told) l_Merged_told c_Merged_told ce_Merged_told k_Merged_told,
    stx_Merged_told := ⟨⟨_, _, _, _, _, co_Merged_told, vf_Merged_told⟩, beq_self_eq_true _, rfl, PySem.W.mg_none_of X G zsuper, Option.isSome_iff_exists.mp ic_Merged, zany⟩,
    b_Merged_told := (funS_mk (st := s_Merged_told) l_Merged_told c_Merged_told ce_Merged_told k_Merged_told).binds (ps := ["self"]) fun _ _ _ _ _ _ us hl => match us, hl with | [_], _ => rfl,
    fn_Merged_told := fn_Merged_told,
    fi_Merged_told := fi_Merged_told,
    k_Merged_told := k_Merged_told,
    f_Missed_XinitX := fun_mk (st := s_Missed_XinitX) l_Missed_XinitX c_Missed_XinitX k_Missed_XinitX,
    b_Missed_XinitX := (fun_mk (st := s_Missed_XinitX) l_Missed_XinitX c_Missed_XinitX k_Missed_XinitX).binds (ps := ["self", "at", "line"]) fun _ _ _ _ _ _ us hl => match us, hl with | [_, _, _], _ => rfl,
    fn_Missed_XinitX := fn_Missed_XinitX,
    fi_Missed_XinitX := fi_Missed_XinitX,
    k_Missed_XinitX := k_Missed_XinitX,
    f_Missed_content := fun_mk (st := s_Missed_content) l_Missed_content c_Missed_content k_Missed_content,
    b_Missed_content := (fun_mk (st := s_Missed_content) l_Missed_content c_Missed_content k_Missed_content).binds (ps := ["self"]) fun _ _ _ _ _ _ us hl => match us, hl with | [_], _ => rfl,
    fn_Missed_content := fn_Missed_content,
    fi_Missed_content := fi_Missed_content,
    k_Missed_content := k_Missed_content,
    f_Missed_told := funS_mk (st := s_Missed_told) l_Missed_told c_Missed_told ce_Missed_told k_Missed_told,
    stx_Missed_told := ⟨⟨_, _, _, _, _, co_Missed_told, vf_Missed_told⟩, beq_self_eq_true _, rfl, PySem.W.mg_none_of X G zsuper, Option.isSome_iff_exists.mp ic_Missed, zany⟩,
    b_Missed_told := (funS_mk (st := s_Missed_told) l_Missed_told c_Missed_told ce_Missed_told k_Missed_told).binds (ps := ["self"]) fun _ _ _ _ _ _ us hl => match us, hl with | [_], _ => rfl,
    fn_Missed_told := fn_Missed_told,
    fi_Missed_told := fi_Missed_told,
    k_Missed_told := k_Missed_told,
    f_law_source := fun_mk (st := s_law_source) l_law_source c_law_source k_law_source,
    b_law_source := (fun_mk (st := s_law_source) l_law_source c_law_source k_law_source).binds (ps := ["_law_script", "_law_index"]) fun _ _ _ _ _ _ us hl => match us, hl with | [_, _], _ => rfl,
    m_law_source := PySem.W.mg_of X G a_law_source,
    k_law_source := k_law_source,
    f_law_draw := fun_mk (st := s_law_draw) l_law_draw c_law_draw k_law_draw,
    b_law_draw := (fun_mk (st := s_law_draw) l_law_draw c_law_draw k_law_draw).binds (ps := ["_law_source_here", "_law_bound"]) fun _ _ _ _ _ _ us hl => match us, hl with | [_, _], _ => rfl,
    m_law_draw := PySem.W.mg_of X G a_law_draw,
    k_law_draw := k_law_draw,
    f_law := fun_mk (st := s_law) l_law c_law k_law,
    b_law := (fun_mk (st := s_law) l_law c_law k_law).binds (ps := ["_law_script"]) fun _ _ _ _ _ _ us hl => match us, hl with | [_], _ => rfl,
    m_law := PySem.W.mg_of X G a_law,
    k_law := k_law,
    ne_Outcome := ne_Outcome,
    su_Outcome := su_Outcome,
    ns_Outcome := ns_Outcome,
    nf_Outcome_Outcome := nf_Outcome_Outcome,
    ne_Placed := ne_Placed,
    su_Placed := su_Placed,
    ns_Placed := ns_Placed,
    sp_Placed := sp_Placed,
    mr_Placed := mr_Placed,
    nq_Placed := nq_Placed,
    nf_Placed_Outcome := nf_Placed_Outcome,
    nf_Placed_Placed := nf_Placed_Placed,
    nf_Placed_Merged := nf_Placed_Merged,
    nf_Placed_Missed := nf_Placed_Missed,
    ne_Merged := ne_Merged,
    su_Merged := su_Merged,
    ns_Merged := ns_Merged,
    sp_Merged := sp_Merged,
    mr_Merged := mr_Merged,
    nq_Merged := nq_Merged,
    nf_Merged_Outcome := nf_Merged_Outcome,
    nf_Merged_Placed := nf_Merged_Placed,
    nf_Merged_Merged := nf_Merged_Merged,
    nf_Merged_Missed := nf_Merged_Missed,
    ne_Missed := ne_Missed,
    su_Missed := su_Missed,
    ns_Missed := ns_Missed,
    sp_Missed := sp_Missed,
    mr_Missed := mr_Missed,
    nq_Missed := nq_Missed,
    nf_Missed_Outcome := nf_Missed_Outcome,
    nf_Missed_Placed := nf_Missed_Placed,
    nf_Missed_Merged := nf_Missed_Merged,
    nf_Missed_Missed := nf_Missed_Missed,
    ss := ss }

theorem walk {l : PySem.W.OpenLaw} {q : Program} {loose : List Str} {XP : (Str → Option Value) → Heap → Prop} {YP : World → Heap → Prop} {d : DefRec} {K : Params → PySem.W.Frag} (hn : l.most = some 63) (hdf : d.params.defaults = [])
    (hY : ∀ (w : World) (h : Heap), YP w h → (K w.params).In h)
    (F : ∀ (w : World) (mg : Str → Option Value) (fa : Addr) (h : Heap), (K w.params).In h → h.Ns mainGlobals mg → mg d.name = some (.ref fa) → ∃ ad : Ad, Txt l.prog (K w.params) mg ad ∧ ad.a_law = fa) :
    PySem.W.WalkO q loose XP YP l.row.toRowW d [] (fun f vs => PySem.call f vs) := by
  refine L2.walk_of (n := 63) (k := 5) (x := "_law_script") (CX := fun _ => CX0) (sp := fun w => spLaw (K w.params)) hn (by decide) hdf ⟨rfl, by decide, by decide⟩ hY ?_ (fun _ _ a ns hl _ hS => ⟨a, ns, rfl, hS, hl, fun _ => rfl⟩) fun _ _ _ _ _ z => z
  intro w mg fa h hK hG hm
  obtain ⟨ad, T, rfl⟩ := F w mg fa h hK hG hm
  refine ⟨ad.d_law, fun s v => ?_, fun base _ _ => ok_law T⟩
  obtain ⟨oc, od, kV, doc, pm, an, cdv, ct, osl, e, _⟩ := T.f_law.ex
  rw [e]
  exact .of_eq rfl

end Toy
open PySem PySem.W PyProof.Rows in
set_option maxRecDepth 100000 in
set_option maxHeartbeats 0 in
theorem PySem.Challenge.cw_sourcequeue_k11_outcomes_holds : PySem.Challenge.rw_sourcequeue_k11_outcomes.Holds := by
  w_on; o_law; k_head; (case hw => w_witness2)
  k_fill
  refine Toy.walk (l := PySem.Challenge.rw_sourcequeue_k11_outcomes) rfl rfl (fun w h Y => PySem.W.kIn_of Y) ?F
  case F =>
    intro w mg fa h KX G hmg
    refine' Toy.all_mk KX G hmg ?zisinstance ?zlen ?zmax ?zmin ?zrange ?zstr ?hnx ?tkx ?mgx_Outcome ?pg_Outcome ?hd_Outcome ?po_Outcome ?sa_Outcome ?oc_Outcome ?om_Outcome ?ic_Outcome ?tc_Outcome ?mk1_Outcome ?kc_Outcome ?mi_Outcome ?mgx_Placed ?pg_Placed ?hd_Placed ?po_Placed ?sa_Placed ?oc_Placed ?om_Placed ?ic_Placed ?tc_Placed ?mk1_Placed ?kc_Placed ?na_Placed_at ?mgx_Merged ?pg_Merged ?hd_Merged ?po_Merged ?sa_Merged ?oc_Merged ?om_Merged ?ic_Merged ?tc_Merged ?mk1_Merged ?kc_Merged ?na_Merged_at ?mgx_Missed ?pg_Missed ?hd_Missed ?po_Missed ?sa_Missed ?oc_Missed ?om_Missed ?ic_Missed ?tc_Missed ?mk1_Missed ?kc_Missed ?na_Missed_at ?na_Missed_line ?a_Outcome_told ?l_Outcome_told ?c_Outcome_told ?k_Outcome_told ?fn_Outcome_told ?fi_Outcome_told ?a_Outcome_content ?l_Outcome_content ?c_Outcome_content ?k_Outcome_content ?fn_Outcome_content ?fi_Outcome_content ?a_Outcome_XeqX ?l_Outcome_XeqX ?c_Outcome_XeqX ?k_Outcome_XeqX ?fn_Outcome_XeqX ?fi_Outcome_XeqX ?a_Placed_XinitX ?l_Placed_XinitX ?c_Placed_XinitX ?k_Placed_XinitX ?fn_Placed_XinitX ?fi_Placed_XinitX ?a_Placed_content ?l_Placed_content ?c_Placed_content ?k_Placed_content ?fn_Placed_content ?fi_Placed_content ?a_Placed_told ?l_Placed_told ?c_Placed_told ?ce_Placed_told ?co_Placed_told ?vf_Placed_told ?k_Placed_told ?fn_Placed_told ?fi_Placed_told ?a_Merged_XinitX ?l_Merged_XinitX ?c_Merged_XinitX ?k_Merged_XinitX ?fn_Merged_XinitX ?fi_Merged_XinitX ?a_Merged_content ?l_Merged_content ?c_Merged_content ?k_Merged_content ?fn_Merged_content ?fi_Merged_content ?a_Merged_told ?l_Merged_told ?c_Merged_told ?ce_Merged_told ?co_Merged_told ?vf_Merged_told ?k_Merged_told ?fn_Merged_told ?fi_Merged_told ?a_Missed_XinitX ?l_Missed_XinitX ?c_Missed_XinitX ?k_Missed_XinitX ?fn_Missed_XinitX ?fi_Missed_XinitX ?a_Missed_content ?l_Missed_content ?c_Missed_content ?k_Missed_content ?fn_Missed_content ?fi_Missed_content ?a_Missed_told ?l_Missed_told ?c_Missed_told ?ce_Missed_told ?co_Missed_told ?vf_Missed_told ?k_Missed_told ?fn_Missed_told ?fi_Missed_told ?a_law_source ?l_law_source ?c_law_source ?k_law_source ?a_law_draw ?l_law_draw ?c_law_draw ?k_law_draw ?a_law ?l_law ?c_law ?k_law ?zsuper ?zany ?co1_Outcome_KIND ?co2_Outcome_KIND ?co3_Outcome_KIND ?co4_Outcome_KIND ?me_Placed_XeqX ?co1_Placed_KIND ?co2_Placed_KIND ?co3_Placed_KIND ?co4_Placed_KIND ?me_Merged_XeqX ?co1_Merged_KIND ?co2_Merged_KIND ?co3_Merged_KIND ?co4_Merged_KIND ?me_Missed_XeqX ?co1_Missed_KIND ?co2_Missed_KIND ?co3_Missed_KIND ?co4_Missed_KIND ?ne_Outcome ?su_Outcome ?ns_Outcome ?nf_Outcome_Outcome ?ne_Placed ?su_Placed ?ns_Placed ?sp_Placed ?mr_Placed ?nq_Placed ?nf_Placed_Outcome ?nf_Placed_Placed ?nf_Placed_Merged ?nf_Placed_Missed ?ne_Merged ?su_Merged ?ns_Merged ?sp_Merged ?mr_Merged ?nq_Merged ?nf_Merged_Outcome ?nf_Merged_Placed ?nf_Merged_Merged ?nf_Merged_Missed ?ne_Missed ?su_Missed ?ns_Missed ?sp_Missed ?mr_Missed ?nq_Missed ?nf_Missed_Outcome ?nf_Missed_Placed ?nf_Missed_Merged ?nf_Missed_Missed ?ss
    (case zisinstance => k_is)
    (case zlen => k_is)
    (case zmax => k_is)
    (case zmin => k_is)
    (case zrange => k_is)
    (case zstr => k_is)
    (case hnx => k_is)
    (case tkx => k_is)
    (case mgx_Outcome => k_is)
    (case pg_Outcome => k_is)
    (case hd_Outcome => k_is)
    (case po_Outcome => k_is)
    (case sa_Outcome => k_is)
    (case oc_Outcome => k_is)
    (case om_Outcome => k_is)
    (case ic_Outcome => k_is)
    (case tc_Outcome => k_is)
    (case mk1_Outcome => k_is)
    (case kc_Outcome => k_is)
    (case mi_Outcome => k_is)
    (case mgx_Placed => k_is)
    (case pg_Placed => k_is)
    (case hd_Placed => k_is)
    (case po_Placed => k_is)
    (case sa_Placed => k_is)
    (case oc_Placed => k_is)
    (case om_Placed => k_is)
    (case ic_Placed => k_is)
    (case tc_Placed => k_is)
    (case mk1_Placed => k_is)
    (case kc_Placed => k_is)
    (case na_Placed_at => k_is)
    (case mgx_Merged => k_is)
    (case pg_Merged => k_is)
    (case hd_Merged => k_is)
    (case po_Merged => k_is)
    (case sa_Merged => k_is)
    (case oc_Merged => k_is)
    (case om_Merged => k_is)
    (case ic_Merged => k_is)
    (case tc_Merged => k_is)
    (case mk1_Merged => k_is)
    (case kc_Merged => k_is)
    (case na_Merged_at => k_is)
    (case mgx_Missed => k_is)
    (case pg_Missed => k_is)
    (case hd_Missed => k_is)
    (case po_Missed => k_is)
    (case sa_Missed => k_is)
    (case oc_Missed => k_is)
    (case om_Missed => k_is)
    (case ic_Missed => k_is)
    (case tc_Missed => k_is)
    (case mk1_Missed => k_is)
    (case kc_Missed => k_is)
    (case na_Missed_at => k_is)
    (case na_Missed_line => k_is)
    (case a_Outcome_told => k_is)
    (case l_Outcome_told => k_is)
    (case c_Outcome_told => k_is)
    (case k_Outcome_told => k_is)
    (case fn_Outcome_told => k_is)
    (case fi_Outcome_told => k_is)
    (case a_Outcome_content => k_is)
    (case l_Outcome_content => k_is)
    (case c_Outcome_content => k_is)
    (case k_Outcome_content => k_is)
    (case fn_Outcome_content => k_is)
    (case fi_Outcome_content => k_is)
    (case a_Outcome_XeqX => k_is)
    (case l_Outcome_XeqX => k_is)
    (case c_Outcome_XeqX => k_is)
    (case k_Outcome_XeqX => k_is)
    (case fn_Outcome_XeqX => k_is)
    (case fi_Outcome_XeqX => k_is)
    (case a_Placed_XinitX => k_is)
    (case l_Placed_XinitX => k_is)
    (case c_Placed_XinitX => k_is)
    (case k_Placed_XinitX => k_is)
    (case fn_Placed_XinitX => k_is)
    (case fi_Placed_XinitX => k_is)
    (case a_Placed_content => k_is)
    (case l_Placed_content => k_is)
    (case c_Placed_content => k_is)
    (case k_Placed_content => k_is)
    (case fn_Placed_content => k_is)
    (case fi_Placed_content => k_is)
    (case a_Placed_told => k_is)
    (case l_Placed_told => k_is)
    (case c_Placed_told => k_is)
    (case ce_Placed_told => k_is)
    (case co_Placed_told => k_is)
    (case vf_Placed_told => rfl)
    (case k_Placed_told => k_is)
    (case fn_Placed_told => k_is)
    (case fi_Placed_told => k_is)
    (case a_Merged_XinitX => k_is)
    (case l_Merged_XinitX => k_is)
    (case c_Merged_XinitX => k_is)
    (case k_Merged_XinitX => k_is)
    (case fn_Merged_XinitX => k_is)
    (case fi_Merged_XinitX => k_is)
    (case a_Merged_content => k_is)
    (case l_Merged_content => k_is)
    (case c_Merged_content => k_is)
    (case k_Merged_content => k_is)
    (case fn_Merged_content => k_is)
    (case fi_Merged_content => k_is)
    (case a_Merged_told => k_is)
    (case l_Merged_told => k_is)
    (case c_Merged_told => k_is)
    (case ce_Merged_told => k_is)
    (case co_Merged_told => k_is)
    (case vf_Merged_told => rfl)
    (case k_Merged_told => k_is)
    (case fn_Merged_told => k_is)
    (case fi_Merged_told => k_is)
    (case a_Missed_XinitX => k_is)
    (case l_Missed_XinitX => k_is)
    (case c_Missed_XinitX => k_is)
    (case k_Missed_XinitX => k_is)
    (case fn_Missed_XinitX => k_is)
    (case fi_Missed_XinitX => k_is)
    (case a_Missed_content => k_is)
    (case l_Missed_content => k_is)
    (case c_Missed_content => k_is)
    (case k_Missed_content => k_is)
    (case fn_Missed_content => k_is)
    (case fi_Missed_content => k_is)
    (case a_Missed_told => k_is)
    (case l_Missed_told => k_is)
    (case c_Missed_told => k_is)
    (case ce_Missed_told => k_is)
    (case co_Missed_told => k_is)
    (case vf_Missed_told => rfl)
    (case k_Missed_told => k_is)
    (case fn_Missed_told => k_is)
    (case fi_Missed_told => k_is)
    (case a_law_source => k_is)
    (case l_law_source => k_is)
    (case c_law_source => k_is)
    (case k_law_source => k_is)
    (case a_law_draw => k_is)
    (case l_law_draw => k_is)
    (case c_law_draw => k_is)
    (case k_law_draw => k_is)
    (case a_law => k_is)
    (case l_law => k_is)
    (case c_law => k_is)
    (case k_law => k_is)
    (case zsuper => k_is)
    (case zany => k_is)
    (case co1_Outcome_KIND => k_is)
    (case co2_Outcome_KIND => exact ⟨_, rfl⟩)
    (case co3_Outcome_KIND => k_is)
    (case co4_Outcome_KIND => decide +kernel)
    (case me_Placed_XeqX => k_is)
    (case co1_Placed_KIND => k_is)
    (case co2_Placed_KIND => exact ⟨_, rfl⟩)
    (case co3_Placed_KIND => k_is)
    (case co4_Placed_KIND => decide +kernel)
    (case me_Merged_XeqX => k_is)
    (case co1_Merged_KIND => k_is)
    (case co2_Merged_KIND => exact ⟨_, rfl⟩)
    (case co3_Merged_KIND => k_is)
    (case co4_Merged_KIND => decide +kernel)
    (case me_Missed_XeqX => k_is)
    (case co1_Missed_KIND => k_is)
    (case co2_Missed_KIND => exact ⟨_, rfl⟩)
    (case co3_Missed_KIND => k_is)
    (case co4_Missed_KIND => decide +kernel)
    (case ne_Outcome => k_is)
    (case su_Outcome => k_is)
    (case ns_Outcome => k_is)
    (case nf_Outcome_Outcome => k_is)
    (case ne_Placed => k_is)
    (case su_Placed => k_is)
    (case ns_Placed => k_is)
    (case sp_Placed => ks_is)
    (case mr_Placed => k_is)
    (case nq_Placed => decide)
    (case nf_Placed_Outcome => k_is)
    (case nf_Placed_Placed => k_is)
    (case nf_Placed_Merged => k_is)
    (case nf_Placed_Missed => k_is)
    (case ne_Merged => k_is)
    (case su_Merged => k_is)
    (case ns_Merged => k_is)
    (case sp_Merged => ks_is)
    (case mr_Merged => k_is)
    (case nq_Merged => decide)
    (case nf_Merged_Outcome => k_is)
    (case nf_Merged_Placed => k_is)
    (case nf_Merged_Merged => k_is)
    (case nf_Merged_Missed => k_is)
    (case ne_Missed => k_is)
    (case su_Missed => k_is)
    (case ns_Missed => k_is)
    (case sp_Missed => ks_is)
    (case mr_Missed => k_is)
    (case nq_Missed => decide)
    (case nf_Missed_Outcome => k_is)
    (case nf_Missed_Placed => k_is)
    (case nf_Missed_Merged => k_is)
    (case nf_Missed_Missed => k_is)
    (case ss => k_is)


