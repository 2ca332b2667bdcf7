import PyProof.Rows.All
import Wide.All
import OpenK.AllK
import Wide.FinOn
import HandS.ForMost
import HandS.Wide
import HandS.Walk
import HandS.Rev
import HandS.Flt
import HandS.RaiseMore
import PyProof.NeData
import PySem.Challenge.RW_sourcequeue_k09_least_changes
set_option Elab.async false
set_option linter.all false
set_option maxRecDepth 100000
set_option maxHeartbeats 4000000
/-! A layer of our own over HandS: readings that compute (a match on the values in place of an existence), rules that serve several kinds of values, heaps, sources. -/
namespace L2
open PySem PySem.Spec PyProof.Rows

/-! ### weaker readings -/
section
variable {X : Cx}
theorem PE.weak {e : Expr} {t t' : TE} (h : PE X e t) (w : ∀ σ H Q, t' σ H Q → t σ H Q) : PE X e t' := ⟨fun pins s σ H Q I q => h.run pins s σ H Q I (w σ H Q q)⟩
theorem PT.weak {e : Expr} {t t' : TT} (h : PT X e t) (w : ∀ σ H Q, t' σ H Q → t σ H Q) : PT X e t' := ⟨fun pins s σ H Q I q => h.run pins s σ H Q I (w σ H Q q)⟩
theorem PW.weak {e : Expr} {t t' : TT} (h : PW X e t) (w : ∀ σ H Q, t' σ H Q → t σ H Q) : PW X e t' := ⟨fun wh pins s σ H Q I q => h.run wh pins s σ H Q I (w σ H Q q)⟩
theorem PS.weak {st : Stmt} {t t' : TS} (h : PS X st t) (w : ∀ D σ H, t' D σ H → t D σ H) : PS X st t' := ⟨fun pins s σ H D I q => h.run pins s σ H D I (w D σ H q)⟩
theorem PSs.weak {st : List Stmt} {t t' : TS} (h : PSs X st t) (w : ∀ D σ H, t' D σ H → t D σ H) : PSs X st t' := ⟨fun pins s σ H D I q => h.run pins s σ H D I (w D σ H q)⟩
theorem PI.weak {tg iter : Expr} {t t' : TI} (h : PI X tg iter t) (w : ∀ σ H R, t' σ H R → t σ H R) : PI X tg iter t' := ⟨fun pins s σ H R I q => h.run pins s σ H R I (w σ H R q)⟩
theorem PI.or {tg iter : Expr} {wi wi' : TI} (h : PI X tg iter wi) (h' : PI X tg iter wi') : PI X tg iter (fun σ H R => wi σ H R ∨ wi' σ H R) :=
  ⟨fun pins s σ H R I q => q.elim (fun q => h.run pins s σ H R I q) fun q => h'.run pins s σ H R I q⟩
theorem PE.or {e : Expr} {t t' : TE} (h : PE X e t) (h' : PE X e t') : PE X e (fun σ H Q => t σ H Q ∨ t' σ H Q) :=
  ⟨fun pins s σ H R I q => q.elim (fun q => h.run pins s σ H R I q) fun q => h'.run pins s σ H R I q⟩
theorem OpR.weak {f : Value → Value → Sem Value} {r r' : R2} (h : OpR X f r) (w : ∀ x y H Q, r' x y H Q → r x y H Q) : OpR X f r' := fun pins s σ H x y v u Q I rx ry q => h pins s σ H x y v u Q I rx ry (w x y H Q q)
theorem CallR.weak {f : Value} {r r' : List V → Hp → VK → Prop} (h : CallR X f r) (w : ∀ xs H Q, r' xs H Q → r xs H Q) : CallR X f r' := fun pins s σ H xs us Q I rx q => h pins s σ H xs us Q I rx (w xs H Q q)
theorem IxR.weak {r r' : R2} (h : IxR X r) (w : ∀ x y H Q, r' x y H Q → r x y H Q) : IxR X r' := fun va sl pins s σ H x y v u Q I rx ry q => h va sl pins s σ H x y v u Q I rx ry (w x y H Q q)
theorem MtR.weak {id : String} {r r' : V → List V → Hp → VK → Prop} (h : MtR X id r) (w : ∀ x xs H Q, r' x xs H Q → r x xs H Q) : MtR X id r' := fun pins s σ H x xs v us Q I rx rs q => h pins s σ H x xs v us Q I rx rs (w x xs H Q q)
theorem PSet.weak {t t' : TSet} (h : PSet X t) (w : ∀ o i v H Q, t' o i v H Q → t o i v H Q) : PSet X t' := fun pins s σ H o i v ov iv u Q I r1 r2 r3 q => h pins s σ H o i v ov iv u Q I r1 r2 r3 (w o i v H Q q)
end

/-! ### ** of greater numbers -/
def CPowW (i j : Int) : Prop := 0 ≤ j ∧ (Builtin.Int.intBits i : Int) * j ≤ 2 ^ 27
theorem pow_bits {i j : Int} {a : Nat} (ha : i.natAbs < 2 ^ a) (h0 : 0 < a) (hj : 0 ≤ j) (h : ((a : Int) + 1) * j ≤ 2 ^ 27) : CPowW i j := by
  refine ⟨hj, ?_⟩
  have x := PySem.Flt.log2_lt_of h0 ha
  have b : Builtin.Int.intBits i ≤ i.natAbs.log2 + 1 := by
    unfold Builtin.Int.intBits
    split <;> omega
  have h2 : (Builtin.Int.intBits i : Int) ≤ (a : Int) + 1 := by omega
  exact Int.le_trans (Int.mul_le_mul_of_nonneg_right h2 hj) h
theorem log2_small {i : Int} {a : Nat} (ha : i.natAbs < 2 ^ a) (h0 : 0 < a) (h : a ≤ 1920) : i.natAbs.log2 < 1920 := Nat.lt_of_lt_of_le (PySem.Flt.log2_lt_of h0 ha) h

/-! ### names, branches -/
def br (b : Bool) (A B : Prop) : Prop := (b = true → A) ∧ (b = false → B)
theorem br.ite {b : Bool} {A B : Prop} (h : br b A B) : if b = true then A else B := by
  cases b with
  | true => rw [if_pos rfl]; exact h.1 rfl
  | false => rw [if_neg Bool.false_ne_true]; exact h.2 rfl
theorem br.t {A B : Prop} (h : A) : br true A B := ⟨fun _ => h, fun z => Bool.noConfusion z⟩
theorem br.f {A B : Prop} (h : B) : br false A B := ⟨fun z => Bool.noConfusion z, fun _ => h⟩
def tV (i : Nat) : TE := fun σ H Q => match σ[i]? with | some (some v) => Q v H | _ => False
theorem tV_of {i : Nat} {σ : St} {H : Hp} {Q : VK} (h : tV i σ H Q) : tVar i σ H Q := by
  unfold tV at h
  split at h
  · rename_i v e; exact ⟨v, e, h⟩
  · exact h.elim
def tTst (t : TE) : TT := fun σ H Q => t σ H fun x H1 => match x with | .bl k => Q k H1 | _ => False
def tAndC (t u : TT) : TT := fun σ H Q => t σ H fun c H1 => br c (u σ H1 Q) (Q false H1)
def tOrC (t u : TT) : TT := fun σ H Q => t σ H fun c H1 => br c (Q true H1) (u σ H1 Q)
def tIfC (t : TT) (ta tb : TE) : TE := fun σ H Q => t σ H fun c H1 => br c (ta σ H1 Q) (tb σ H1 Q)
def tIfSC (c : TT) (t u : TS) : TS := fun D σ H => c σ H fun b H1 => br b (t D σ H1) (u D σ H1)
def tAndVC (ta tb : TE) : TE := fun σ H Q => ta σ H fun x H1 => match x with | .bl c => br c (tb σ H1 Q) (Q (.bl false) H1) | _ => False
def tOrVC (ta tb : TE) : TE := fun σ H Q => ta σ H fun x H1 => match x with | .bl c => br c (Q (.bl true) H1) (tb σ H1 Q) | _ => False
def tNotVC (ta : TT) : TE := fun σ H Q => ta σ H fun c H1 => Q (.bl (!c)) H1
/-- a test's answers are joined: what is known of them stands in P -/
def tJn (t : TT) : TT := fun σ H Q => ∃ P : Bool → Hp → Prop, t σ H P ∧ ∀ b H', P b H' → Q b H'
/-- a statement's ends are joined -/
def tCt (t : TS) : TS := fun D σ H => ∃ P : St → Hp → Prop, t { D with nx := P } σ H ∧ ∀ σ' H', P σ' H' → D.nx σ' H'
section
variable {X : Cx} {e a b c : Expr} {rest : List Expr} {te ta tb : TE} {tA tB : TT} {pos : Pos}
theorem cv (i : Nat) {x : Str} {pos : Pos} (hN : X.N[i]? = some x := by rfl) (hv : Vis X.env.scope x := by first | exact Or.inl rfl | exact Or.inr (Or.inl rfl) | exact Or.inr (Or.inr rfl)) (hd : (x == ("__debug__" : Str)) = false := by decide)
    (hcd : (x == ("__classdict__" : Str)) = false := by decide) : PE X (.Name x pos) (tV i) := (pe_var hN hv hd hcd).weak fun _ _ _ h => tV_of h
theorem run_bl {pins : List (Addr × Obj)} {s : Shared} {σ : St} {H : Hp} {Q : Bool → Hp → Prop} {t : Sem Value} (h : wpAny (model X.prog X.w) X.A t (EP X pins σ (fun x H1 => match x with | .bl k => Q k H1 | _ => False)) X.xe s) :
    wpAny (model X.prog X.w) X.A t (EP X pins σ (fun x H1 => ∃ k, x = .bl k ∧ Q k H1)) X.xe s := by
  refine thn h fun v s1 hv => ?_
  obtain ⟨x, H1, I1, r1, q1⟩ := hv
  cases x with
  | bl k => exact ⟨_, H1, I1, r1, k, rfl, q1⟩
  | _ => exact q1.elim
theorem PE.bl (h : PE X e te) : PE X e (fun σ H Q => te σ H fun x H1 => match x with | .bl k => Q (.bl k) H1 | _ => False) := ⟨fun pins s σ H Q I q => by
  refine thn (h.run pins s σ H _ I q) fun v s1 hv => ?_
  obtain ⟨x, H1, I1, r1, q1⟩ := hv
  cases x with
  | bl k => exact ⟨_, H1, I1, r1, q1⟩
  | _ => exact q1.elim⟩
theorem ct_val (h : PE X e te) (he : ∀ whole, isTrue e X.env whole = (do let v ← whole; standAt e.pos; holding [v] (truthy v)) := by intro _; rfl) : PT X e (tTst te) := ⟨fun pins s σ H Q I q => by
  have h2 : PE X e (fun σ H Q => te σ H fun x H1 => match x with | .bl k => Q (.bl k) H1 | _ => False) := h.bl
  have h3 := pt_val h2 he
  exact h3.run pins s σ H Q I (by
    show te σ H _
    have q' : te σ H fun x H1 => match x with | .bl k => Q k H1 | _ => False := q
    have eq : (fun x H1 => match x with | .bl k => Q k H1 | _ => False) = (fun (x : V) (H1 : Hp) => match x with | .bl k => (fun (x : V) (H' : Hp) => ∃ k, x = .bl k ∧ Q k H') (.bl k) H1 | _ => False) := by
      funext x H1
      cases x with
      | bl k => exact propext ⟨fun q => ⟨k, rfl, q⟩, fun ⟨k', e, q⟩ => by cases e; exact q⟩
      | _ => rfl
    rw [eq] at q'
    exact q')⟩
theorem OpR.bl {f : Value → Value → Sem Value} {r : R2} (h : OpR X f r) : OpR X f (fun x y H Q => r x y H fun z H1 => match z with | .bl k => Q (.bl k) H1 | _ => False) := fun pins s σ H x y v u Q I rx ry q => by
  refine thn (h pins s σ H x y v u _ I rx ry q) fun v s1 hv => ?_
  obtain ⟨x, H1, I1, r1, q1⟩ := hv
  cases x with
  | bl k => exact ⟨_, H1, I1, r1, q1⟩
  | _ => exact q1.elim
theorem ct_cmp {op : CmpOp} {r : R2} (ho : OpR X (compareOp op) r) (ha : PE X a ta) (hb : PE X b tb) (hm : behindInMarks op b = false) : PT X (.Compare a [op] [b] pos) (tTst (tOp r ta tb)) :=
  (pt_cmpR ho.bl ha hb hm).weak fun σ H Q h => by
    have eq : (fun (x : V) (H1 : Hp) => match x with | .bl k => Q k H1 | _ => False) = (fun (x : V) (H1 : Hp) => match x with | .bl k => (fun (x : V) (H' : Hp) => ∃ k, x = .bl k ∧ Q k H') (.bl k) H1 | _ => False) := by
      funext x H1
      cases x with
      | bl k => exact propext ⟨fun q => ⟨k, rfl, q⟩, fun ⟨k', e, q⟩ => by cases e; exact q⟩
      | _ => rfl
    have h' : ta σ H fun x H1 => tb σ H1 fun y H2 => r x y H2 fun (x : V) (H1 : Hp) => match x with | .bl k => Q k H1 | _ => False := h
    rw [eq] at h'
    exact h'
theorem run_br {t : TT} {e : Expr} (h : PT X e t) {pins : List (Addr × Obj)} {s : Shared} {σ : St} {H : Hp} {A B : Hp → Prop} (I : Inv X pins σ H s) (q : t σ H fun c H1 => br c (A H1) (B H1)) :
    wpAny (model X.prog X.w) X.A (isTrue e X.env (eval e X.env)) (TP X pins σ fun c H1 => if c = true then A H1 else B H1) X.xe s :=
  thn (h.run pins s σ H _ I q) fun c s1 ⟨H1, I1, q1⟩ => ⟨H1, I1, q1.ite⟩
/-- the branch of a test as br -/
theorem PT.br2 (h : PT X e tA) : PT X e (fun σ H Q => tA σ H fun c H1 => L2.br c (Q true H1) (Q false H1)) := ⟨fun pins s σ H Q I q => by
  refine thn (h.run pins s σ H _ I q) fun c s1 ⟨H1, I1, q1⟩ => ⟨H1, I1, ?_⟩
  cases c with
  | true => exact q1.1 rfl
  | false => exact q1.2 rfl⟩
theorem br_if {c : Bool} {A B : Prop} : (if c = true then A else B) = br c A B := by
  cases c with
  | true => rw [if_pos rfl]; exact propext ⟨fun h => .t h, fun h => h.1 rfl⟩
  | false => rw [if_neg Bool.false_ne_true]; exact propext ⟨fun h => .f h, fun h => h.2 rfl⟩
theorem tAnd_eq (t u : TT) : tAnd t u = tAndC t u := by funext σ H Q; unfold tAnd tAndC; congr 1; funext c H1; exact br_if
theorem tOr_eq (t u : TT) : tOr t u = tOrC t u := by funext σ H Q; unfold tOr tOrC; congr 1; funext c H1; exact br_if
theorem tIf_eq (t : TT) (u v : TE) : tIf t u v = tIfC t u v := by funext σ H Q; unfold tIf tIfC; congr 1; funext c H1; exact br_if
theorem tIfS_eq (t : TT) (u v : TS) : tIfS t u v = tIfSC t u v := by funext D σ H; unfold tIfS tIfSC; congr 1; funext c H1; exact br_if
theorem cw_and (ha : PT X a tA) (hb : PW X (.BoolOp .And (b :: rest) pos) tB) : PW X (.BoolOp .And (a :: b :: rest) pos) (tAndC tA tB) := by rw [← tAnd_eq]; exact pw_and ha hb
theorem cw_or (ha : PT X a tA) (hb : PW X (.BoolOp .Or (b :: rest) pos) tB) : PW X (.BoolOp .Or (a :: b :: rest) pos) (tOrC tA tB) := by rw [← tOr_eq]; exact pw_or ha hb
theorem ce_if {c : Expr} (hc : PT X c tA) (ha : PE X a ta) (hb : PE X b tb) : PE X (.IfExp c a b pos) (tIfC tA ta tb) := by rw [← tIf_eq]; exact pe_ifExp hc ha hb
theorem cs_if {c : Expr} {a b : List Stmt} {tc : TT} {t u : TS} (hc : PT X c tc) (ha : PSs X a t) (hb : PSs X b u) : PS X (.If c a b pos) (tIfSC tc t u) := by rw [← tIfS_eq]; exact ps_if hc ha hb
theorem bl_eq {te : TE} {σ : St} {H : Hp} {f : Bool → Hp → Prop} : (te σ H fun x H1 => match x with | .bl c => f c H1 | _ => False) → (fun σ H (Q : VK) => te σ H fun x H1 => match x with | .bl k => Q (.bl k) H1 | _ => False) σ H fun x H1 => ∃ c, x = .bl c ∧ f c H1 := by
  intro h
  show te σ H _
  have eq : (fun (x : V) (H1 : Hp) => match x with | .bl c => f c H1 | _ => False) = (fun (x : V) (H1 : Hp) => match x with | .bl k => (fun (x : V) (H' : Hp) => ∃ k, x = .bl k ∧ f k H') (.bl k) H1 | _ => False) := by
    funext x H1
    cases x with
    | bl k => exact propext ⟨fun q => ⟨k, rfl, q⟩, fun ⟨k', e, q⟩ => by cases e; exact q⟩
    | _ => rfl
  rw [eq] at h
  exact h
theorem ce_and (ha : PE X a ta) (hb : PE X (.BoolOp .And (b :: rest) pos) tb) : PE X (.BoolOp .And (a :: b :: rest) pos) (tAndVC ta tb) :=
  (pe_and ha.bl hb).weak fun σ H Q h => bl_eq (f := fun c H1 => if c = true then tb σ H1 Q else Q (.bl false) H1) (by
    have h' : ta σ H fun x H1 => match x with | .bl c => br c (tb σ H1 Q) (Q (.bl false) H1) | _ => False := h
    have eq : (fun (x : V) (H1 : Hp) => match x with | .bl c => br c (tb σ H1 Q) (Q (.bl false) H1) | _ => False) = (fun (x : V) (H1 : Hp) => match x with | .bl c => if c = true then tb σ H1 Q else Q (.bl false) H1 | _ => False) := by
      funext x H1
      cases x with
      | bl k => exact br_if.symm
      | _ => rfl
    rw [eq] at h'
    exact h')
theorem ce_or (ha : PE X a ta) (hb : PE X (.BoolOp .Or (b :: rest) pos) tb) : PE X (.BoolOp .Or (a :: b :: rest) pos) (tOrVC ta tb) :=
  (pe_or ha.bl hb).weak fun σ H Q h => bl_eq (f := fun c H1 => if c = true then Q (.bl true) H1 else tb σ H1 Q) (by
    have h' : ta σ H fun x H1 => match x with | .bl c => br c (Q (.bl true) H1) (tb σ H1 Q) | _ => False := h
    have eq : (fun (x : V) (H1 : Hp) => match x with | .bl c => br c (Q (.bl true) H1) (tb σ H1 Q) | _ => False) = (fun (x : V) (H1 : Hp) => match x with | .bl c => if c = true then Q (.bl true) H1 else tb σ H1 Q | _ => False) := by
      funext x H1
      cases x with
      | bl k => exact br_if.symm
      | _ => rfl
    rw [eq] at h'
    exact h')
theorem PT.join (h : PT X e tA) : PT X e (tJn tA) := ⟨fun pins s σ H Q I ⟨P, h1, h2⟩ => thn (h.run pins s σ H P I h1) fun b s1 ⟨H1, I1, q1⟩ => ⟨H1, I1, h2 b H1 q1⟩⟩
theorem PS.cut {st : Stmt} {t : TS} (h : PS X st t) : PS X st (tCt t) := ⟨fun pins s σ H D I ⟨P, h1, h2⟩ => thn (h.run pins s σ H _ I h1) fun f s1 q => by
  cases f with
  | next => obtain ⟨σ', H', I', q'⟩ := q; exact ⟨σ', H', I', h2 σ' H' q'⟩
  | brk => exact q
  | cont => exact q
  | ret u => exact q⟩
end

/-! ### == of flat lists -/
/-- two lists of flat values, item by item -/
def eqVs : List V → List V → Bool
  | [], [] => true
  | x :: xs, y :: ys => eqV x y && eqVs xs ys
  | _, _ => false
theorem eqVs_len : ∀ xs ys : List V, eqVs xs ys = true → xs.length = ys.length
  | [], [], _ => rfl
  | x :: xs, y :: ys, h => by
    rw [eqVs, Bool.and_eq_true] at h
    rw [List.length_cons, List.length_cons, eqVs_len xs ys h.2]
  | [], y :: ys, h => by simp [eqVs] at h
  | x :: xs, [], h => by simp [eqVs] at h
theorem eqVs_all : ∀ xs ys : List V, xs.length = ys.length → eqVs xs ys = (List.range xs.length).all fun j => eqV (xs.getD j .non) (ys.getD j .non)
  | [], [], _ => rfl
  | x :: xs, y :: ys, h => by
    rw [eqVs, eqVs_all xs ys (by simpa using h), List.length_cons, List.range_succ_eq_map, List.all_cons, List.all_map]
    rfl
  | [], y :: ys, h => by simp at h
  | x :: xs, [], h => by simp at h
theorem eqVs_strs : ∀ xs ys : List Str, eqVs (xs.map V.str) (ys.map V.str) = decide (xs = ys)
  | [], [] => rfl
  | [], y :: ys => by simp [eqVs]
  | x :: xs, [] => by simp [eqVs]
  | x :: xs, y :: ys => by
    rw [List.map_cons, List.map_cons, eqVs, eqVs_strs xs ys]
    show (x == y && _) = _
    by_cases h : x = y <;> by_cases g : xs = ys <;> simp [h, g]
theorem eqVs_ints : ∀ xs ys : List Int, eqVs (xs.map V.int) (ys.map V.int) = decide (xs = ys)
  | [], [] => rfl
  | [], y :: ys => by simp [eqVs]
  | x :: xs, [] => by simp [eqVs]
  | x :: xs, y :: ys => by
    rw [List.map_cons, List.map_cons, eqVs, eqVs_ints xs ys]
    show (x == y && _) = _
    by_cases h : x = y <;> by_cases g : xs = ys <;> simp [h, g]
theorem eqVs_bls : ∀ xs ys : List Bool, eqVs (xs.map V.bl) (ys.map V.bl) = decide (xs = ys)
  | [], [] => rfl
  | [], y :: ys => by simp [eqVs]
  | x :: xs, [] => by simp [eqVs]
  | x :: xs, y :: ys => by
    rw [List.map_cons, List.map_cons, eqVs, eqVs_bls xs ys]
    show (x == y && _) = _
    by_cases h : x = y <;> by_cases g : xs = ys <;> simp [h, g]
/-- two lists, two tuples, of flat values -/
def SqP (K : PySem.W.Frag) (H : Hp) (a b : Addr) (xs ys : List V) : Prop := (SqL K H a xs ∧ SqL K H b ys) ∨ (SqT K H a xs ∧ SqT K H b ys)
def rEqF (K : PySem.W.Frag) : R2 := fun x y H Q => ∃ a b xs ys, x = .ref a ∧ y = .ref b ∧ SqP K H a b xs ys ∧ xs.all flatV = true ∧ ys.all flatV = true ∧ Q (.bl (eqVs xs ys)) H
def rNeF (K : PySem.W.Frag) : R2 := fun x y H Q => ∃ a b xs ys, x = .ref a ∧ y = .ref b ∧ SqP K H a b xs ys ∧ xs.all flatV = true ∧ ys.all flatV = true ∧ Q (.bl (!eqVs xs ys)) H
section
variable {X : Cx} {pins : List (Addr × Obj)} {s : Shared} {σ : St} {H : Hp}
theorem flatq_at {A : Around} {xs ys : List V} {its its2 : List Value} (r1 : Vals xs its) (r2 : Vals ys its2) (f1 : xs.all flatV = true) (f2 : ys.all flatV = true) (j : Nat) (h1 : j < its.toArray.size) (h2 : j < its2.toArray.size) :
    SeqAt.EqAt A s its.toArray[j] its2.toArray[j] (eqV (xs.getD j .non) (ys.getD j .non)) := by
  have e1 := r1.length
  have e2 := r2.length
  have h1' : j < xs.length := by rw [e1]; simpa using h1
  have h2' : j < ys.length := by rw [e2]; simpa using h2
  obtain ⟨u, hu, ru⟩ := r1.get (List.getElem?_eq_getElem h1')
  obtain ⟨v, hv, rv⟩ := r2.get (List.getElem?_eq_getElem h2')
  have g1 : its.toArray[j] = u := by
    have := List.getElem?_eq_getElem (show j < its.length by simpa using h1)
    rw [this] at hu
    simpa using hu
  have g2 : its2.toArray[j] = v := by
    have := List.getElem?_eq_getElem (show j < its2.length by simpa using h2)
    rw [this] at hv
    simpa using hv
  have q1 : xs.getD j .non = xs[j] := by simp [h1']
  have q2 : ys.getD j .non = ys[j] := by simp [h2']
  rw [g1, g2, q1, q2]
  exact eqAt_V ru rv (List.all_eq_true.mp f1 _ (List.getElem_mem h1')) (List.all_eq_true.mp f2 _ (List.getElem_mem h2'))
theorem eqVs_ne {xs ys : List V} (h : xs.length ≠ ys.length) : eqVs xs ys = false := by
  cases e : eqVs xs ys with
  | false => rfl
  | true => exact absurd (eqVs_len _ _ e) h
theorem min_all {e : Nat → Bool} {m n : Nat} (h : m = n) : ((List.range (min m n)).all e && m == n) = (List.range m).all e := by subst h; simp
theorem op_eqF (hu : X.A.units < cLine) : OpR X (compareOp .Eq) (rEqF X.K) := by
  intro pins s σ H x y v u Q I rx ry h
  obtain ⟨a, b, xs, ys, rfl, rfl, hs, f1, f2, q⟩ := h
  cases rx
  cases ry
  rcases hs with ⟨h1, h2⟩ | ⟨h1, h2⟩
  · obtain ⟨its, r1, p1, z1⟩ := I.list h1
    obtain ⟨its2, r2, p2, z2⟩ := I.list h2
    by_cases hl : xs.length = ys.length
    · have hsz : its.toArray.size = its2.toArray.size := by rw [List.size_toArray, List.size_toArray, ← r1.length, ← r2.length, hl]
      refine SeqAt.eq_listAt p1.isList p2.isList hsz hu (fun j a b => flatq_at r1 r2 f1 f2 j a b) ⟨.bl (eqVs xs ys), H, I, ?_, q⟩
      rw [eqVs_all _ _ hl, r1.length, List.size_toArray]; rfl
    · refine SeqAt.eq_list_lengthsAt p1.isList p2.isList ?_ hu ⟨.bl (eqVs xs ys), H, I, ?_, q⟩
      · simp only [List.size_toArray, ← r1.length, ← r2.length]; simpa using hl
      · rw [eqVs_ne hl]; rfl
  · obtain ⟨its, r1, p1, z1⟩ := I.tuple h1
    obtain ⟨its2, r2, p2, z2⟩ := I.tuple h2
    refine SeqAt.eq_tupleAt (show s.heap.IsTuple a its.toArray from p1) (show s.heap.IsTuple b its2.toArray from p2) hu (fun j a b => flatq_at r1 r2 f1 f2 j a b) ⟨.bl (eqVs xs ys), H, I, ?_, q⟩
    by_cases hl : xs.length = ys.length
    · have hsz : its.toArray.size = its2.toArray.size := by rw [List.size_toArray, List.size_toArray, ← r1.length, ← r2.length, hl]
      rw [min_all hsz, eqVs_all _ _ hl, r1.length, List.size_toArray]; rfl
    · rw [eqVs_ne hl]
      have : (its.toArray.size == its2.toArray.size) = false := by simp only [List.size_toArray, ← r1.length, ← r2.length]; simpa using hl
      rw [this, Bool.and_false]; rfl
theorem op_neF (hu : X.A.units < cLine) : OpR X (compareOp .NotEq) (rNeF X.K) := by
  intro pins s σ H x y v u Q I rx ry h
  obtain ⟨a, b, xs, ys, rfl, rfl, hs, f1, f2, q⟩ := h
  cases rx
  cases ry
  show wpAny (model X.prog X.w) X.A (richCompare .NotEq _ _) _ _ _
  rcases hs with ⟨h1, h2⟩ | ⟨h1, h2⟩
  · obtain ⟨its, r1, p1, z1⟩ := I.list h1
    obtain ⟨its2, r2, p2, z2⟩ := I.list h2
    by_cases hl : xs.length = ys.length
    · have hsz : its.toArray.size = its2.toArray.size := by rw [List.size_toArray, List.size_toArray, ← r1.length, ← r2.length, hl]
      refine SeqAt.RcNeAt.lists p1.isList p2.isList hsz hu (fun j a b => flatq_at r1 r2 f1 f2 j a b) _ _ _ _ ⟨.bl (!eqVs xs ys), H, I, ?_, q⟩
      rw [eqVs_all _ _ hl, r1.length, List.size_toArray]; rfl
    · refine SeqAt.RcNeAt.lists_lengths p1.isList p2.isList ?_ hu _ _ _ _ ⟨.bl (!eqVs xs ys), H, I, ?_, q⟩
      · simp only [List.size_toArray, ← r1.length, ← r2.length]; simpa using hl
      · rw [eqVs_ne hl]; rfl
  · obtain ⟨its, r1, p1, z1⟩ := I.tuple h1
    obtain ⟨its2, r2, p2, z2⟩ := I.tuple h2
    refine SeqAt.RcNeAt.tuples (show s.heap.IsTuple a its.toArray from p1) (show s.heap.IsTuple b its2.toArray from p2) hu (fun j a b => flatq_at r1 r2 f1 f2 j a b) _ _ _ _ ⟨.bl (!eqVs xs ys), H, I, ?_, q⟩
    by_cases hl : xs.length = ys.length
    · have hsz : its.toArray.size = its2.toArray.size := by rw [List.size_toArray, List.size_toArray, ← r1.length, ← r2.length, hl]
      rw [min_all hsz, eqVs_all _ _ hl, r1.length, List.size_toArray]; rfl
    · rw [eqVs_ne hl]
      have : (its.toArray.size == its2.toArray.size) = false := by simp only [List.size_toArray, ← r1.length, ← r2.length]; simpa using hl
      rw [this, Bool.and_false]; rfl
end
theorem flatV_strs (xs : List Str) : (xs.map V.str).all flatV = true := by simp [flatV]
theorem flatV_ints (xs : List Int) : (xs.map V.int).all flatV = true := by simp [flatV]
theorem flatV_bls (xs : List Bool) : (xs.map V.bl).all flatV = true := by simp [flatV]
theorem rEq_strs {K : PySem.W.Frag} {H : Hp} {a b : Addr} {xs ys : List Str} {Q : VK} (h : SqP K H a b (xs.map V.str) (ys.map V.str)) (q : Q (.bl (decide (xs = ys))) H) : rEqF K (.ref a) (.ref b) H Q :=
  ⟨a, b, _, _, rfl, rfl, h, flatV_strs xs, flatV_strs ys, by rw [eqVs_strs]; exact q⟩
theorem rNe_strs {K : PySem.W.Frag} {H : Hp} {a b : Addr} {xs ys : List Str} {Q : VK} (h : SqP K H a b (xs.map V.str) (ys.map V.str)) (q : Q (.bl (!decide (xs = ys))) H) : rNeF K (.ref a) (.ref b) H Q :=
  ⟨a, b, _, _, rfl, rfl, h, flatV_strs xs, flatV_strs ys, by rw [eqVs_strs]; exact q⟩
theorem rNe_ints {K : PySem.W.Frag} {H : Hp} {a b : Addr} {xs ys : List Int} {Q : VK} (h : SqP K H a b (xs.map V.int) (ys.map V.int)) (q : Q (.bl (!decide (xs = ys))) H) : rNeF K (.ref a) (.ref b) H Q :=
  ⟨a, b, _, _, rfl, rfl, h, flatV_ints xs, flatV_ints ys, by rw [eqVs_ints]; exact q⟩
theorem rNe_bls {K : PySem.W.Frag} {H : Hp} {a b : Addr} {xs ys : List Bool} {Q : VK} (h : SqP K H a b (xs.map V.bl) (ys.map V.bl)) (q : Q (.bl (!decide (xs = ys))) H) : rNeF K (.ref a) (.ref b) H Q :=
  ⟨a, b, _, _, rfl, rfl, h, flatV_bls xs, flatV_bls ys, by rw [eqVs_bls]; exact q⟩

/-! ### operators -/
def rAddC (K : PySem.W.Frag) : R2 := fun x y H Q => match x, y with
  | .int i, .int j => Q (.int (i + j)) H
  | .str i, .str j => i.length + j.length ≤ sizeLine ∧ Q (.str (i ++ j)) H
  | .ref l, .ref b => (∃ xs zs, H l = some (.lst xs) ∧ H b = some (.lst zs) ∧ xs.length + zs.length ≤ sizeLine ∧ ∀ p, H p = none → Q (.ref p) (upd H p (.lst (xs ++ zs)))) ∨ rCatT K (.ref l) (.ref b) H Q
  | _, _ => False
def rMulC : R2 := fun x y H Q => match x, y with
  | .int i, .int j => CMul i j ∧ Q (.int (i * j)) H
  | .ref l, .int k => rRep (.ref l) (.int k) H Q
  | _, _ => False
def rIC (C : Int → Int → Prop) (g : Int → Int → V) : R2 := fun x y H Q => match x, y with
  | .int i, .int j => C i j ∧ Q (g i j) H
  | _, _ => False
def rI0C (g : Int → Int → V) : R2 := fun x y H Q => match x, y with
  | .int i, .int j => Q (g i j) H
  | _, _ => False
def rCmpC (g : Int → Int → Bool) (h : Str → Str → Bool) : R2 := fun x y H Q => match x, y with
  | .int i, .int j => Q (.bl (g i j)) H
  | .str i, .str j => Q (.bl (h i j)) H
  | _, _ => False
def rEqC (K : PySem.W.Frag) : R2 := fun x y H Q => match x, y with
  | .int i, .int j => Q (.bl (decide (i = j))) H
  | .str i, .str j => Q (.bl (decide (i = j))) H
  | .bl i, .bl j => Q (.bl (decide (i = j))) H
  | .ref a, .ref b => rEqF K (.ref a) (.ref b) H Q ∨ rEqD K (.ref a) (.ref b) H Q
  | x, y => scal x y = true ∧ Q (.bl (decide (x = y))) H
def rNeC (K : PySem.W.Frag) : R2 := fun x y H Q => match x, y with
  | .int i, .int j => Q (.bl (!decide (i = j))) H
  | .str i, .str j => Q (.bl (!decide (i = j))) H
  | .bl i, .bl j => Q (.bl (!decide (i = j))) H
  | .ref a, .ref b => rNeF K (.ref a) (.ref b) H Q ∨ rNeD K (.ref a) (.ref b) H Q
  | x, y => scal x y = true ∧ Q (.bl (!decide (x = y))) H
def rIxC (K : PySem.W.Frag) : R2 := fun x y H Q => match x, y with
  | .ref p, .int i => ∃ xs v, (SqL K H p xs ∨ SqT K H p xs) ∧ atI xs i = some v ∧ Q v H
  | .str z, .int i => ∃ c, z.length ≤ sizeLine ∧ atI z.cps.toList i = some c ∧ Q (.str ⟨#[c]⟩) H
  | _, _ => False
def rSetC : TSet := fun o i v H Q => match o, i with
  | .ref p, .int k => ∃ xs j, H p = some (.lst xs) ∧ ixN xs.length k = some j ∧ Q (upd H p (.lst (xs.set j v)))
  | _, _ => False
def rUC (g : Int → V) : V → Hp → VK → Prop := fun x H Q => match x with
  | .int i => Q (g i) H
  | _ => False
theorem dV_int {i j : Int} : decide (V.int i = V.int j) = decide (i = j) := by by_cases h : i = j <;> simp [h]
theorem dV_str {i j : Str} : decide (V.str i = V.str j) = decide (i = j) := by by_cases h : i = j <;> simp [h]
theorem dV_bl {i j : Bool} : decide (V.bl i = V.bl j) = decide (i = j) := by by_cases h : i = j <;> simp [h]
section
variable {X : Cx}
theorem oc_add {K : PySem.W.Frag} (hK : X.K = K := by rfl) : OpR X (binaryOp .Add) (rAddC K) := hK ▸ (op_add.or (op_add_str.or (op_cat.or op_catT))).weak fun x y H Q h => by
  cases x <;> cases y <;> first | exact False.elim h | skip
  · exact .inl ⟨_, _, rfl, rfl, h⟩
  · exact .inr (.inl ⟨_, _, rfl, rfl, h⟩)
  · rcases h with ⟨xs, zs, h⟩ | h
    · exact .inr (.inr (.inl ⟨_, _, xs, zs, rfl, rfl, h⟩))
    · exact .inr (.inr (.inr h))
theorem oc_mul : OpR X (binaryOp .Mult) rMulC := (op_mul.or op_rep).weak fun x y H Q h => by
  cases x <;> cases y <;> first | exact False.elim h | skip
  · exact .inl ⟨_, _, rfl, rfl, h⟩
  · exact .inr h
theorem OpR.int {f : Value → Value → Sem Value} {C : Int → Int → Prop} {g : Int → Int → V} (h : OpR X f (rI C g)) : OpR X f (rIC C g) := h.weak fun x y H Q h => by
  cases x <;> cases y <;> first | exact False.elim h | exact ⟨_, _, rfl, rfl, h⟩
theorem OpR.int0 {f : Value → Value → Sem Value} {g : Int → Int → V} (h : OpR X f (rI0 g)) : OpR X f (rI0C g) := h.weak fun x y H Q h => by
  cases x <;> cases y <;> first | exact False.elim h | exact ⟨_, _, rfl, rfl, h⟩
theorem oc_sub : OpR X (binaryOp .Sub) (rI0C fun i j => .int (i - j)) := op_sub.int0
theorem oc_div : OpR X (binaryOp .FloorDiv) (rIC CDivW fun i j => .int (i / j)) := op_fdivW.int
theorem oc_mod : OpR X (binaryOp .Mod) (rIC (fun _ j => 0 < j) fun i j => .int (i % j)) := op_mod.int
theorem oc_pow : OpR X (binaryOp .Pow) (rIC CPowW fun i j => .int (i ^ j.toNat)) := OpR.int (opI fun _ _ _ _ _ _ _ hc q => pow_int hc.1 hc.2 q)
theorem OpR.cmp {f : Value → Value → Sem Value} {g : Int → Int → Bool} {k : Str → Str → Bool} (h : OpR X f (rI0 fun i j => .bl (g i j))) (h' : OpR X f (fun x y H Q => ∃ i j, x = .str i ∧ y = .str j ∧ Q (.bl (k i j)) H)) : OpR X f (rCmpC g k) := (h.or h').weak fun x y H Q h => by
  cases x <;> cases y <;> first | exact False.elim h | exact .inl ⟨_, _, rfl, rfl, h⟩ | exact .inr ⟨_, _, rfl, rfl, h⟩
theorem oc_lt : OpR X (compareOp .Lt) (rCmpC (fun i j => decide (i < j)) fun i j => decide (i.cps.toList < j.cps.toList)) := op_lt.cmp op_lt_str
theorem oc_le : OpR X (compareOp .LtE) (rCmpC (fun i j => decide (i ≤ j)) fun i j => !decide (j.cps.toList < i.cps.toList)) := op_le.cmp op_le_str
theorem oc_gt : OpR X (compareOp .Gt) (rCmpC (fun i j => decide (j < i)) fun i j => decide (j.cps.toList < i.cps.toList)) := op_gt.cmp op_gt_str
theorem oc_ge : OpR X (compareOp .GtE) (rCmpC (fun i j => decide (j ≤ i)) fun i j => !decide (i.cps.toList < j.cps.toList)) := op_ge.cmp op_ge_str
theorem oc_eq {K : PySem.W.Frag} (hu : X.A.units + 64 < cLine) (hK : X.K = K := by rfl) : OpR X (compareOp .Eq) (rEqC K) := hK ▸ (op_eq.or ((op_eqF (by omega)).or (op_eqD hu))).weak fun x y H Q h => by
  cases x <;> cases y <;> first | exact .inl h | exact .inr h | exact .inl ⟨rfl, by rw [dV_int]; exact h⟩ | exact .inl ⟨rfl, by rw [dV_str]; exact h⟩ | exact .inl ⟨rfl, by rw [dV_bl]; exact h⟩
theorem oc_ne {K : PySem.W.Frag} (hu : X.A.units + 64 < cLine) (hK : X.K = K := by rfl) : OpR X (compareOp .NotEq) (rNeC K) := hK ▸ (op_ne.or ((op_neF (by omega)).or (op_neD hu))).weak fun x y H Q h => by
  cases x <;> cases y <;> first | exact .inl h | exact .inr h | exact .inl ⟨rfl, by rw [dV_int]; exact h⟩ | exact .inl ⟨rfl, by rw [dV_str]; exact h⟩ | exact .inl ⟨rfl, by rw [dV_bl]; exact h⟩
theorem ic_seq {K : PySem.W.Frag} (hK : X.K = K := by rfl) : IxR X (rIxC K) := hK ▸ ix_seq.weak fun x y H Q h => by
  cases x <;> cases y <;> first | exact False.elim h | skip
  · obtain ⟨c, h⟩ := h; exact .inr (.inr ⟨_, _, c, rfl, rfl, h⟩)
  · obtain ⟨xs, v, h | h, q⟩ := h
    · exact .inl ⟨_, xs, _, v, rfl, rfl, h, q⟩
    · exact .inr (.inl ⟨_, xs, _, v, rfl, rfl, h, q⟩)
theorem set_c : PSet X rSetC := set_list.weak fun o i v H Q h => by
  cases o <;> cases i <;> first | exact False.elim h | skip
  obtain ⟨xs, j, h⟩ := h
  exact ⟨_, xs, _, j, rfl, rfl, h⟩
theorem uc_neg : UnR X (unaryOp .USub) (rUC fun i => .int (-i)) := fun pins s σ H x u Q I rx h => un_neg pins s σ H x u Q I rx (by
  cases x <;> first | exact False.elim h | exact ⟨_, rfl, h⟩)
end

/-! ### calls of built-ins -/
def rLenC (K : PySem.W.Frag) : List V → Hp → VK → Prop := fun xs H Q => match xs with
  | [.ref p] => ∃ ys, (SqL K H p ys ∨ SqT K H p ys) ∧ Q (.int ys.length) H
  | [.str z] => z.length ≤ sizeLine ∧ Q (.int z.length) H
  | _ => False
def rMaxC : List V → Hp → VK → Prop := fun xs H Q => match xs with
  | [.int i, .int j] => Q (.int (max i j)) H
  | [.int i, .int j, .int k] => Q (.int (max (max i j) k)) H
  | _ => False
def rMinC : List V → Hp → VK → Prop := fun xs H Q => match xs with
  | [.int i, .int j] => Q (.int (min i j)) H
  | _ => False
def rTupC (K : PySem.W.Frag) : List V → Hp → VK → Prop := fun xs H Q => match xs with
  | [.ref p] => ∃ ys, (SqL K H p ys ∧ ∀ l, H l = none → Q (.ref l) (upd H l (.tup ys))) ∨ (SqT K H p ys ∧ Q (.ref p) H)
  | _ => False
def rListC (K : PySem.W.Frag) : List V → Hp → VK → Prop := fun xs H Q => match xs with
  | [.ref p] => ∃ ys, (SqL K H p ys ∨ SqT K H p ys) ∧ ∀ l, H l = none → Q (.ref l) (upd H l (.lst ys))
  | _ => False
def rStrC : List V → Hp → VK → Prop := fun xs H Q => match xs with
  | [.int i] => i.natAbs.log2 < 1920 ∧ Q (.str (toString i)) H
  | _ => False
section
variable {X : Cx}
theorem cc_len {K : PySem.W.Frag} (hK : X.K = K := by rfl) : CallR X (.builtin "len") (rLenC K) := hK ▸ (call_len_seq.or call_len_str).weak fun xs H Q h => by
  unfold rLenC at h
  split at h
  · obtain ⟨ys, h⟩ := h; exact .inl ⟨_, ys, rfl, h⟩
  · exact .inr ⟨_, rfl, h⟩
  · exact h.elim
theorem max_if (i j : Int) : (if j > i then j else i) = max i j := by omega
theorem min_if (i j : Int) : (if j < i then j else i) = min i j := by omega
theorem nuMax2_int (i j : Int) : nuMax2 (.int i) (.int j) = some (.int (max i j)) := by
  show some (if decide (i < j) = true then V.int j else V.int i) = _
  by_cases h : i < j
  · rw [if_pos (decide_eq_true h), show max i j = j by omega]
  · rw [if_neg (by simpa using h), show max i j = i by omega]
theorem cc_max (hc : X.calm = true) : CallR X (.builtin "max") rMaxC := ((call_max2 hc).or (call_max3Nu hc)).weak fun xs H Q h => by
  unfold rMaxC at h
  split at h
  · rename_i i j; exact .inl ⟨i, j, rfl, by rw [max_if]; exact h⟩
  · rename_i i j k
    refine .inr ⟨_, _, _, _, rfl, ?_, h⟩
    show (nuMax2 (.int i) (.int j)).bind _ = _
    rw [nuMax2_int, Option.bind_some, nuMax2_int]
  · exact h.elim
theorem cc_min (hc : X.calm = true) : CallR X (.builtin "min") rMinC := (call_min2 hc).weak fun xs H Q h => by
  unfold rMinC at h
  split at h
  · rename_i i j; exact ⟨i, j, rfl, by rw [min_if]; exact h⟩
  · exact h.elim
theorem cc_tuple {K : PySem.W.Frag} (hK : X.K = K := by rfl) : CallR X (.type "tuple") (rTupC K) := hK ▸ call_tuple_of.weak fun xs H Q h => by
  unfold rTupC at h
  split at h
  · obtain ⟨ys, h⟩ := h; exact ⟨_, ys, rfl, h⟩
  · exact h.elim
theorem cc_list {K : PySem.W.Frag} (hK : X.K = K := by rfl) : CallR X (.type "list") (rListC K) := hK ▸ call_list_of.weak fun xs H Q h => by
  unfold rListC at h
  split at h
  · obtain ⟨ys, h⟩ := h; exact ⟨_, ys, rfl, h⟩
  · exact h.elim
theorem cc_str : CallR X (.type "str") rStrC := call_str_int.weak fun xs H Q h => by
  unfold rStrC at h
  split at h
  · exact ⟨_, rfl, h⟩
  · exact h.elim
theorem cc_repr : CallR X (.builtin "repr") rStrC := SkE.call_repr_int.weak fun xs H Q h => by
  unfold rStrC at h
  split at h
  · exact ⟨_, rfl, h⟩
  · exact h.elim
end

/-! ### slices -/
def rSlC (K : PySem.W.Frag) : V → Option Int → Option Int → Hp → VK → Prop := fun x lo hi H Q => match x with
  | .ref a => rSlL K (.ref a) lo hi H Q ∨ rSlT K (.ref a) lo hi H Q
  | .str z => rSlS (.str z) lo hi H Q
  | _ => False
def tPartC (t : TE) : TO := fun σ H Q => t σ H fun x H1 => match x with | .int i => Q (some i) H1 | _ => False
section
variable {X : Cx} {e : Expr} {te : TE}
theorem sc_U {K : PySem.W.Frag} (hK : X.K = K := by rfl) : SlR X (rSlC K) := hK ▸ fun pins s σ H x v vl vu lo hi sl Q I rx h1 h2 h3 h => (sl_list.or (sl_tup.or sl_str)) pins s σ H x v vl vu lo hi sl Q I rx h1 h2 h3 (by
  cases x <;> first | exact False.elim h | skip
  · exact .inr (.inr h)
  · exact h.elim (fun h => .inl h) fun h => .inr (.inl h))
theorem poc {e : Expr} {te : TE} (h : PE X e te) : PO X (some e) (tPartC te) := ⟨fun pins s σ H Q I q => (po_some (e := e) (te := fun σ H Q => te σ H fun x H1 => match x with | .int i => Q (.int i) H1 | _ => False) ⟨fun pins s σ H Q I q => by
  refine thn (h.run pins s σ H _ I q) fun v s1 hv => ?_
  obtain ⟨x, H1, I1, r1, q1⟩ := hv
  cases x with
  | int k => exact ⟨_, H1, I1, r1, q1⟩
  | _ => exact q1.elim⟩).run pins s σ H Q I (by
    show te σ H _
    have q' : te σ H fun x H1 => match x with | .int i => Q (some i) H1 | _ => False := q
    have eq : (fun (x : V) (H1 : Hp) => match x with | .int i => Q (some i) H1 | _ => False) = (fun (x : V) (H1 : Hp) => match x with | .int k => (fun (x : V) (H' : Hp) => ∃ k, x = .int k ∧ Q (some k) H') (.int k) H1 | _ => False) := by
      funext x H1
      cases x with
      | int k => exact propext ⟨fun q => ⟨k, rfl, q⟩, fun ⟨k', e, q⟩ => by cases e; exact q⟩
      | _ => rfl
    rw [eq] at q'
    exact q')⟩
end

/-! ### what is walked -/
section
variable {X : Cx} {tg e : Expr} {te : TE}
theorem pic_seq {K : PySem.W.Frag} (h : PE X e te) (hK : X.K = K := by rfl) : PI X tg e (fun σ H R => iList K te σ H R ∨ iTup K te σ H R) := hK ▸ (pi_list h).or (pi_tup h)
theorem pic_rev {K : PySem.W.Frag} {p pos : Pos} (hg : Gl X "reversed") (hm : X.mg "reversed" = none) (he : PE X e te) (hK : X.K = K := by rfl) (hs : starEach [e] X.env = (false, eval e X.env) :: starEach [] X.env := by rfl) : PI X tg (.Call (.Name "reversed" p) [e] [] pos) (RT.iRevA K te) := hK ▸ RT.pi_revA hg hm he hs
end
theorem walk_revT {K : PySem.W.Frag} {a : Addr} {xs : List V} : Walk (RT.ItvT K a xs.length) xs.length (fun H => SqT K H a xs) (fun i H x H' => H' = H ∧ xs[xs.length - 1 - i]? = some x) :=
  ⟨fun i _ hi q => ⟨hi, xs, xs[xs.length - 1 - i]'(by omega), q, by simp [show xs.length - 1 - i < xs.length by omega]⟩, fun _ _ => Nat.le_refl _, fun _ _ _ _ _ q y => ⟨y.1, y.2 xs q⟩⟩

/-! ### methods of lists -/
def rAppC : V → List V → Hp → VK → Prop := fun x vs H Q => match x, vs with
  | .ref l, [y] => ∃ xs, H l = some (.lst xs) ∧ xs.length < sizeLine ∧ Q .non (upd H l (.lst (xs ++ [y])))
  | _, _ => False
def rExtC : V → List V → Hp → VK → Prop := fun x vs H Q => match x, vs with
  | .ref l, [.ref b] => ∃ xs zs, H l = some (.lst xs) ∧ H b = some (.lst zs) ∧ xs.length + zs.length ≤ sizeLine ∧ Q .non (upd H l (.lst (xs ++ zs)))
  | _, _ => False
def rPopC : V → List V → Hp → VK → Prop := fun x vs H Q => match x, vs with
  | .ref l, [.int i] => ∃ (xs : List V) (k : Nat) (y : V), H l = some (.lst xs) ∧ i = (k : Int) ∧ k < 2 ^ 62 ∧ xs[k]? = some y ∧ Q y (upd H l (.lst (xs.eraseIdx k)))
  | .ref l, [] => ∃ (xs : List V) (y : V), H l = some (.lst xs) ∧ xs[xs.length - 1]? = some y ∧ Q y (upd H l (.lst xs.dropLast))
  | _, _ => False
def rRevC : V → List V → Hp → VK → Prop := fun x vs H Q => match x, vs with
  | .ref l, [] => ∃ xs, H l = some (.lst xs) ∧ Q .non (upd H l (.lst xs.reverse))
  | _, _ => False
/-- the receiver is a list that may be read -/
def tLM (K : PySem.W.Frag) (r : V → List V → Hp → VK → Prop) (to : TE) (t : TA) : TE := fun σ H Q => to σ H fun x H1 => match x with
  | .ref l => (∃ xs, SqL K H1 l xs) ∧ t σ H1 fun vs H2 => r (.ref l) vs H2 Q
  | _ => False
section
variable {X : Cx}
theorem mc_append : MtR X "list.append" rAppC := MtR.weak (r := rAppend) mt_append fun x vs H Q h => by
  unfold rAppC at h
  split at h
  · obtain ⟨xs, h⟩ := h; exact ⟨_, xs, _, rfl, rfl, h⟩
  · exact h.elim
theorem mc_extend : MtR X "list.extend" rExtC := MtR.weak (r := rExtend) mt_extend fun x vs H Q h => by
  unfold rExtC at h
  split at h
  · obtain ⟨xs, zs, h⟩ := h; exact ⟨_, _, xs, zs, rfl, rfl, h⟩
  · exact h.elim
theorem seqIndex_nat {k n : Nat} (h : k < n) : seqIndex? (k : Int) n = some k := by
  have := (ixN_seq (n := n) (i := (k : Int)) (j := k) (by unfold ixN; rw [if_pos (by omega), if_pos (by omega)]; simp)).1
  exact this
theorem mc_pop : MtR X "list.pop" rPopC := MtR.weak (MtR.or (r := rPopAt) (r' := rPop) mt_popAt mt_pop) fun x vs H Q h => by
  unfold rPopC at h
  split at h
  · obtain ⟨xs, k, y, h1, rfl, h2, h3, q⟩ := h
    have hk := (List.getElem?_eq_some_iff.mp h3).1
    exact .inl ⟨_, xs, _, k, y, rfl, rfl, h1, by omega, by omega, seqIndex_nat hk, h3, q⟩
  · obtain ⟨xs, y, h⟩ := h; exact .inr ⟨_, xs, y, rfl, rfl, h⟩
  · exact h.elim
theorem mc_reverse : MtR X "list.reverse" rRevC := MtR.weak (r := rReverse) mt_reverse fun x vs H Q h => by
  unfold rRevC at h
  split at h
  · obtain ⟨xs, h⟩ := h; exact ⟨_, xs, rfl, rfl, h⟩
  · exact h.elim
theorem tLM_of {K : PySem.W.Frag} {r : V → List V → Hp → VK → Prop} {to : TE} {t : TA} {σ : St} {H : Hp} {Q : VK} (mono : ∀ P P' : VK, (∀ v H', P v H' → P' v H') → to σ H P → to σ H P') (h : tLM K r to t σ H Q) : tBM K "list" r to t σ H Q :=
  mono _ _ (fun x H' q => by
    cases x with
    | ref l => exact ⟨.inl ⟨rfl, q.1⟩, q.2⟩
    | _ => exact q.elim) h
end

/-! ### heaps -/
/-- all that was tracked, but what stands at a, is as it was -/
def SameB (a : Addr) (H H' : Hp) : Prop := ∀ b o, b ≠ a → H b = some o → H' b = some o
theorem SameB.refl {a : Addr} {H : Hp} : SameB a H H := fun _ _ _ h => h
theorem SameB.trans {a : Addr} {H H1 H2 : Hp} (x : SameB a H H1) (y : SameB a H1 H2) : SameB a H H2 := fun b o n h => y b o n (x b o n h)
theorem SameB.of {a : Addr} {H H' : Hp} (x : Same H H') : SameB a H H' := fun b o _ h => x b o h
theorem SameB.at {a : Addr} {H : Hp} {o : HO} : SameB a H (upd H a o) := fun b u n h => by rw [upd_ne n]; exact h
theorem upd_new {H : Hp} {a b : Addr} {o u : HO} (h : H b = some u) (hn : H a = none) : upd H a o b = some u := by rw [upd_ne (ne_of_none h hn)]; exact h
theorem upd_oth {H : Hp} {a b : Addr} {o u : HO} (hn : b ≠ a) (h : H b = some u) : upd H a o b = some u := by rw [upd_ne hn]; exact h
theorem Same.new {H : Hp} {a : Addr} {o : HO} (hn : H a = none) : Same H (upd H a o) := fun _ _ h => upd_new h hn
theorem SameB.new {a p : Addr} {H : Hp} {o : HO} (hn : H p = none) : SameB a H (upd H p o) := SameB.of (Same.new hn)
/-- a write to what was not there at the start -/
theorem SameB.wr {a p : Addr} {H H1 : Hp} {o : HO} (x : SameB a H H1) (hn : H p = none) : SameB a H (upd H1 p o) := fun b u n h => by
  rw [upd_ne (ne_of_none h hn)]; exact x b u n h
theorem SameB.ws {a : Addr} {H H1 : Hp} {o : HO} (x : SameB a H H1) : SameB a H (upd H1 a o) := fun b u n h => by
  rw [upd_ne n]; exact x b u n h
theorem Same.wr {p : Addr} {H H1 : Hp} {o : HO} (x : Same H H1) (hn : H p = none) : Same H (upd H1 p o) := fun b u h => by
  rw [upd_ne (ne_of_none h hn)]; exact x b u h
theorem SameB.free {a : Addr} {H H' : Hp} (e : SameB a H H') {l : Addr} (n : l ≠ a) (h : H' l = none) : H l = none := by
  cases q : H l with
  | none => rfl
  | some o => rw [e l o n q] at h; cases h
theorem SameB.seq {K : PySem.W.Frag} {s a : Addr} {H H' : Hp} {xs : List V} (e : SameB s H H') (n : a ≠ s) (h : SqL K H a xs) : SqL K H' a xs := by
  rcases h with (h | ⟨o, h⟩) | h
  · exact .inl (.inl (e _ _ n h))
  · exact .inl (.inr ⟨o, e _ _ n h⟩)
  · exact .inr h
theorem SameB.seqT {K : PySem.W.Frag} {s a : Addr} {H H' : Hp} {xs : List V} (e : SameB s H H') (n : a ≠ s) (h : SqT K H a xs) : SqT K H' a xs := by
  rcases h with (h | ⟨o, h⟩) | h
  · exact .inl (.inl (e _ _ n h))
  · exact .inl (.inr ⟨o, e _ _ n h⟩)
  · exact .inr h
theorem Same.seqT {K : PySem.W.Frag} {H H' : Hp} {a : Addr} {xs : List V} (e : Same H H') (h : SqT K H a xs) : SqT K H' a xs := by
  rcases h with (h | ⟨o, h⟩) | h
  · exact .inl (.inl (e _ _ h))
  · exact .inl (.inr ⟨o, e _ _ h⟩)
  · exact .inr h

theorem upd_none {H : Hp} {a p : Addr} {o : HO} (h : upd H a o p = none) : H p = none := by
  by_cases e : p = a
  · subst e; rw [upd_same] at h; cases h
  · rw [upd_ne e] at h; exact h
theorem upd_none_ne {H : Hp} {a p : Addr} {o : HO} (h : upd H a o p = none) : p ≠ a := by
  intro e; subst e; rw [upd_same] at h; cases h
theorem SameB.get {s b : Addr} {H H' : Hp} {o : HO} (e : SameB s H H') (n : b ≠ s) (h : H b = some o) : H' b = some o := e b o n h
theorem Same.get {b : Addr} {H H' : Hp} {o : HO} (e : Same H H') (h : H b = some o) : H' b = some o := e b o h
/-- what was not there, is not the source -/
theorem SameB.free' {a : Addr} {H H' : Hp} {xs : List V} (e : SameB a H H') (ha : H' a = some (.lst xs)) {l : Addr} (h : H' l = none) : H l = none := e.free (ne_of_none ha h).symm h

theorem Same.transB {s : Addr} {H H1 H2 : Hp} (x : Same H H1) (y : SameB s H1 H2) (hs : H s = none) : Same H H2 := fun b o h => y b o (ne_of_none h hs) (x b o h)

/-! ### slices of any list -/
def cutL {α : Type} (xs : List α) (lo hi : Option Int) : List α := (xs.drop (HT.sIx xs.length 0 lo)).take (HT.sIx xs.length xs.length hi - HT.sIx xs.length 0 lo)
theorem cutV_map {α : Type} (f : α → V) (xs : List α) (lo hi : Option Int) : cutV (xs.map f) lo hi = (cutL xs lo hi).map f := by
  unfold cutV cutL
  rw [List.length_map, List.map_take, List.map_drop]
theorem cutL_length {α : Type} (xs : List α) (lo hi : Option Int) : (cutL xs lo hi).length ≤ xs.length := by
  unfold cutL
  rw [List.length_take, List.length_drop]
  omega
theorem cutL_mem {α : Type} {xs : List α} {lo hi : Option Int} {x : α} (h : x ∈ cutL xs lo hi) : x ∈ xs := List.mem_of_mem_drop (List.mem_of_mem_take h)

theorem cut_two {α : Type} (xs : List α) {a b : Int} (ha : 0 ≤ a) (hb : 0 ≤ b) : (cutL xs none (some a)).length + (cutL xs (some (a + b)) none).length ≤ xs.length := by
  obtain ⟨i, rfl⟩ := Int.eq_ofNat_of_zero_le ha
  obtain ⟨j, rfl⟩ := Int.eq_ofNat_of_zero_le hb
  unfold cutL
  rw [← Int.natCast_add, HT.sIx_none, HT.sIx_none, HT.sIx_nat, HT.sIx_nat]
  simp only [List.length_take, List.length_drop]
  omega

/-! ### lists of texts, of ints -/
theorem dpAll_str {K : PySem.W.Frag} {H : Hp} : ∀ xs : List Str, DpAll K H (xs.map V.str) (xs.map PyData.str)
  | [] => .nil
  | x :: xs => .cons (.str x) (dpAll_str xs)
theorem dpAll_int {K : PySem.W.Frag} {H : Hp} : ∀ xs : List Int, DpAll K H (xs.map V.int) (xs.map PyData.int)
  | [] => .nil
  | x :: xs => .cons (.int x) (dpAll_int xs)
theorem dpAll_bl {K : PySem.W.Frag} {H : Hp} : ∀ xs : List Bool, DpAll K H (xs.map V.bl) (xs.map PyData.bool)
  | [] => .nil
  | x :: xs => .cons (.bl x) (dpAll_bl xs)
theorem str_len_app (a b : Str) : (a ++ b).length = a.length + b.length := by
  show (a.cps ++ b.cps).size = a.cps.size + b.cps.size
  exact Array.size_append
theorem atI_mem {α : Type} {xs : List α} {d : Int} (h0 : 0 ≤ d) (h1 : d < xs.length) : ∃ v, v ∈ xs ∧ atI xs d = some v := by
  obtain ⟨j, rfl⟩ := Int.eq_ofNat_of_zero_le h0
  have hj : j < xs.length := by omega
  exact ⟨xs[j], List.getElem_mem hj, atI_nat (List.getElem?_eq_getElem hj)⟩
theorem atI_strs {ls : List Str} {d : Int} (h0 : 0 ≤ d) (h1 : d < ls.length) : ∃ z, z ∈ ls ∧ atI (ls.map V.str) d = some (.str z) := by
  obtain ⟨j, rfl⟩ := Int.eq_ofNat_of_zero_le h0
  have hj : j < ls.length := by omega
  exact ⟨ls[j], List.getElem_mem hj, atI_nat (by rw [List.getElem?_map, List.getElem?_eq_getElem hj]; rfl)⟩
theorem atI_ints {ls : List Int} {d : Int} (h0 : 0 ≤ d) (h1 : d < ls.length) : ∃ z, z ∈ ls ∧ atI (ls.map V.int) d = some (.int z) := by
  obtain ⟨j, rfl⟩ := Int.eq_ofNat_of_zero_le h0
  have hj : j < ls.length := by omega
  exact ⟨ls[j], List.getElem_mem hj, atI_nat (by rw [List.getElem?_map, List.getElem?_eq_getElem hj]; rfl)⟩
theorem rep_flat (k : Nat) (x : V) : (List.replicate k [x]).flatten = List.replicate k x := by
  induction k with
  | zero => rfl
  | succ k ih => rw [List.replicate_succ, List.flatten_cons, ih, List.replicate_succ]; rfl
theorem atI_map {α : Type} {xs : List α} {f : α → V} {i : Int} {j : Nat} {x : α} (e : i = (j : Int)) (h : xs[j]? = some x) : atI (xs.map f) i = some (f x) := by
  subst e
  exact atI_nat (by rw [List.getElem?_map, h]; rfl)
theorem atI_of {xs : List V} {i : Int} {j : Nat} {x : V} (e : i = (j : Int)) (h : xs[j]? = some x) : atI xs i = some x := by
  subst e
  exact atI_nat h
theorem ixN_of {n : Nat} {i : Int} {j : Nat} (e : i = (j : Int)) (h : j < n) : ixN n i = some j := by
  subst e
  unfold ixN
  rw [if_pos (by omega), if_pos (by omega)]
  rfl
theorem str_len_num {v : Int} (h0 : 0 ≤ v) {k : Nat} (hk : 0 < k) (h : v < 10 ^ k) : (Str.ofString (toString v)).length ≤ k := toString_length_le h0 hk h

/-! ### pairs of lists -/
theorem prd_app {α β : Type} {F : α → β → Prop} : ∀ {l₁ m₁ : List α} {l₂ m₂ : List β}, Paired F l₁ l₂ → Paired F m₁ m₂ → Paired F (l₁ ++ m₁) (l₂ ++ m₂)
  | _, _, _, _, .nil, h => h
  | _, _, _, _, .cons r t, h => .cons r (prd_app t h)
theorem prd_get {α β : Type} {F : α → β → Prop} : ∀ {l₁ : List α} {l₂ : List β} {i : Nat} {a : α}, Paired F l₁ l₂ → l₁[i]? = some a → ∃ b, l₂[i]? = some b ∧ F a b
  | _, _, _, _, .nil, e => by simp at e
  | _, _, 0, _, .cons r _, e => by simp at e; subst e; exact ⟨_, rfl, r⟩
  | _, _, i + 1, a, .cons _ t, e => by
    obtain ⟨b, h1, h2⟩ := prd_get (i := i) (a := a) t (by simpa using e)
    exact ⟨b, by simpa using h1, h2⟩
theorem prd_map {α β γ : Type} {F : α → β → Prop} {G : α → γ → Prop} (g : β → γ) (h : ∀ a b, F a b → G a (g b)) : ∀ {l₁ : List α} {l₂ : List β}, Paired F l₁ l₂ → Paired G l₁ (l₂.map g)
  | _, _, .nil => .nil
  | _, _, .cons r t => .cons (h _ _ r) (prd_map g h t)
theorem prd_mono {α β : Type} {F G : α → β → Prop} (h : ∀ a b, F a b → G a b) : ∀ {l₁ : List α} {l₂ : List β}, Paired F l₁ l₂ → Paired G l₁ l₂
  | _, _, .nil => .nil
  | _, _, .cons r t => .cons (h _ _ r) (prd_mono h t)
theorem prd_mem {α β : Type} {F : α → β → Prop} : ∀ {l₁ : List α} {l₂ : List β} {a : α}, Paired F l₁ l₂ → a ∈ l₁ → ∃ b, b ∈ l₂ ∧ F a b
  | _, _, _, .nil, e => by cases e
  | _, _, a, .cons (a := a') (b := b') r t, e => by
    rcases List.mem_cons.mp e with h | h
    · subst h; exact ⟨b', List.mem_cons_self, r⟩
    · obtain ⟨b, h1, h2⟩ := prd_mem t h
      exact ⟨b, List.mem_cons_of_mem _ h1, h2⟩
/-- a list of lists of texts: their addresses, and what stands there -/
def LLs (H : Hp) (as : List Addr) (cs : List (List Str)) : Prop := Paired (fun a c => H a = some (.lst (c.map V.str))) as cs
theorem LLs.same {H H' : Hp} {as : List Addr} {cs : List (List Str)} (h : LLs H as cs) (e : Same H H') : LLs H' as cs := prd_mono (fun a _ q => e a _ q) h

/-! ### the law's source of numbers -/
/-- three ints: what is left of the digits, the mixed one, how many were drawn (at most k) -/
def SrcL (k : Nat) (xs : List V) : Prop := ∃ a b c : Int, xs = [.int a, .int b, .int c] ∧ 0 ≤ a ∧ 0 ≤ b ∧ b < 2 ^ 200 ∧ 0 ≤ c ∧ c ≤ (k : Int)
theorem SrcL.mono {k m : Nat} {xs : List V} (h : SrcL k xs) (hk : k ≤ m) : SrcL m xs := by
  obtain ⟨a, b, c, e, h1, h2, h3, h4, h5⟩ := h
  exact ⟨a, b, c, e, h1, h2, h3, h4, by omega⟩
/-- a draw: bounds, and the source with one more drawn -/
def spDraw : Sp := fun vs H Q _ => ∃ (s : Addr) (n : Int) (k : Nat) (xs : List V), vs = [.ref s, .int n] ∧ H s = some (.lst xs) ∧ SrcL k xs ∧ k < 2 ^ 60 ∧ 0 < n ∧ n < 2 ^ 200 ∧
  ∀ (d : Int) (ys : List V), 0 ≤ d → d < n → SrcL (k + 1) ys → Q (.int d) (upd H s (.lst ys))
/-- a new source -/
def spSource (K : PySem.W.Frag) : Sp := fun vs H Q _ => ∃ (a : Addr) (i : Int) (ns : List Int), vs = [.ref a, .int i] ∧ SqL K H a (ns.map V.int) ∧ ns.length ≤ 63 ∧ 0 ≤ i ∧ i < 2 ^ 60 ∧
  ∀ (p : Addr) (xs : List V), H p = none → SrcL 0 xs → Q (.ref p) (upd H p (.lst xs))
/-- the law: the script is a list of at most 63 ints, the answer is True -/
def spLaw (K : PySem.W.Frag) : Sp := fun vs H Q _ => ∃ (a : Addr) (ns : List Int), vs = [.ref a] ∧ SqL K H a (ns.map V.int) ∧ ns.length ≤ 63 ∧ ∀ H', Q (.bl true) H'
end L2

set_option linter.unusedSectionVars false
/-! Longest common subsequences of lists, in plain Lean. -/
namespace Lcs
variable {α : Type} [DecidableEq α]

def lcs : List α → List α → Nat
  | [], _ => 0
  | _ :: _, [] => 0
  | x :: xs, y :: ys => if x = y then lcs xs ys + 1 else max (lcs xs (y :: ys)) (lcs (x :: xs) ys)
termination_by a b => a.length + b.length

theorem lcs_nil_left (b : List α) : lcs [] b = 0 := by unfold lcs; rfl
theorem lcs_nil_right (a : List α) : lcs a [] = 0 := by
  cases a with
  | nil => unfold lcs; rfl
  | cons x xs => unfold lcs; rfl
theorem lcs_cons (x y : α) (xs ys : List α) : lcs (x :: xs) (y :: ys) = if x = y then lcs xs ys + 1 else max (lcs xs (y :: ys)) (lcs (x :: xs) ys) := by
  rw [lcs]

theorem lcs_comm : ∀ (a b : List α), lcs a b = lcs b a
  | [], b => by rw [lcs_nil_left, lcs_nil_right]
  | x :: xs, [] => by rw [lcs_nil_left, lcs_nil_right]
  | x :: xs, y :: ys => by
    rw [lcs_cons, lcs_cons]
    by_cases h : x = y
    · rw [if_pos h, if_pos h.symm, lcs_comm xs ys]
    · rw [if_neg h, if_neg (Ne.symm h), lcs_comm xs (y :: ys), lcs_comm (x :: xs) ys, Nat.max_comm]
termination_by a b => a.length + b.length

/-- one more item in front adds at most one, and takes nothing -/
theorem lcs_step : ∀ (a b : List α) (x : α), lcs a b ≤ lcs (x :: a) b ∧ lcs (x :: a) b ≤ lcs a b + 1
  | a, [], x => by rw [lcs_nil_right, lcs_nil_right]; omega
  | a, y :: ys, x => by
    have h1 := lcs_step a ys x
    have h2 : lcs a ys ≤ lcs a (y :: ys) ∧ lcs a (y :: ys) ≤ lcs a ys + 1 := by
      cases a with
      | nil => rw [lcs_nil_left, lcs_nil_left]; omega
      | cons z zs =>
        have h3 := lcs_step zs ys z
        have h4 := lcs_step zs (y :: ys) z
        have h5 := lcs_cons z y zs ys
        have h6 := lcs_comm zs ys
        have h7 : lcs (y :: ys) zs = lcs zs (y :: ys) := lcs_comm _ _
        by_cases e : z = y
        · rw [if_pos e] at h5
          omega
        · rw [if_neg e] at h5
          have h8 := lcs_step ys zs y
          rw [h7, ← h6] at h8
          omega
    rw [lcs_cons]
    by_cases e : x = y
    · rw [if_pos e]; omega
    · rw [if_neg e]; omega
termination_by a b => a.length + b.length

theorem lcs_step' (a b : List α) (y : α) : lcs a b ≤ lcs a (y :: b) ∧ lcs a (y :: b) ≤ lcs a b + 1 := by
  rw [lcs_comm a b, lcs_comm a (y :: b)]
  exact lcs_step b a y

/-- the program's row: the greatest of three -/
theorem lcs_three (x y : α) (xs ys : List α) :
    lcs (x :: xs) (y :: ys) = max (max (if x = y then lcs xs ys + 1 else 0) (lcs (x :: xs) ys)) (lcs xs (y :: ys)) := by
  have h1 := lcs_step xs ys x
  have h2 := lcs_step' xs ys y
  rw [lcs_cons]
  by_cases e : x = y
  · rw [if_pos e, if_pos e]; omega
  · rw [if_neg e, if_neg e]; omega

theorem lcs_le_left : ∀ (a b : List α), lcs a b ≤ a.length
  | [], b => by rw [lcs_nil_left]; exact Nat.zero_le _
  | x :: xs, b => by
    have h := lcs_le_left xs b
    have h1 := (lcs_step xs b x).2
    rw [List.length_cons]; omega
theorem lcs_le_right (a b : List α) : lcs a b ≤ b.length := by
  rw [lcs_comm]; exact lcs_le_left b a

/-- every common subsequence is at most as long -/
theorem le_lcs {s a b : List α} (h1 : s.Sublist a) : s.Sublist b → s.length ≤ lcs a b := by
  induction h1 generalizing b with
  | slnil => intro _; exact Nat.zero_le _
  | @cons l₁ l₂ x h ih =>
    intro h2
    exact Nat.le_trans (ih h2) (lcs_step _ _ _).1
  | @cons_cons l₁ l₂ x h ih =>
    intro h2
    induction b with
    | nil => cases h2
    | cons y ys ihb =>
      cases h2 with
      | cons _ h3 => exact Nat.le_trans (ihb h3) (lcs_step' _ _ _).1
      | cons_cons _ h3 =>
        rw [lcs_cons, if_pos rfl, List.length_cons]
        have := ih h3
        omega

/-- there is one as long -/
theorem lcs_has : ∀ (a b : List α), ∃ s : List α, s.Sublist a ∧ s.Sublist b ∧ s.length = lcs a b
  | [], b => ⟨[], List.Sublist.refl _, List.nil_sublist _, by rw [lcs_nil_left]; rfl⟩
  | x :: xs, [] => ⟨[], List.nil_sublist _, List.Sublist.refl _, by rw [lcs_nil_right]; rfl⟩
  | x :: xs, y :: ys => by
    by_cases e : x = y
    · obtain ⟨s, h1, h2, h3⟩ := lcs_has xs ys
      refine ⟨x :: s, h1.cons_cons x, by rw [e]; exact h2.cons_cons y, ?_⟩
      rw [lcs_cons, if_pos e, List.length_cons, h3]
    · by_cases g : lcs xs (y :: ys) ≤ lcs (x :: xs) ys
      · obtain ⟨s, h1, h2, h3⟩ := lcs_has (x :: xs) ys
        exact ⟨s, h1, h2.cons y, by rw [lcs_cons, if_neg e, h3]; omega⟩
      · obtain ⟨s, h1, h2, h3⟩ := lcs_has xs (y :: ys)
        exact ⟨s, h1.cons x, h2, by rw [lcs_cons, if_neg e, h3]; omega⟩
termination_by a b => a.length + b.length

/-- two subsequences of one list meet in one of at least so many items -/
theorem meet {b : List α} : ∀ {s t : List α}, s.Sublist b → t.Sublist b → ∃ u : List α, u.Sublist s ∧ u.Sublist t ∧ s.length + t.length ≤ u.length + b.length := by
  induction b with
  | nil =>
    intro s t h1 h2
    cases h1; cases h2
    exact ⟨[], List.Sublist.refl _, List.Sublist.refl _, Nat.le_refl _⟩
  | cons y ys ih =>
    intro s t h1 h2
    cases h1 with
    | cons _ h1 =>
      cases h2 with
      | cons _ h2 =>
        obtain ⟨u, a, b, c⟩ := ih h1 h2
        exact ⟨u, a, b, by rw [List.length_cons]; omega⟩
      | cons_cons _ h2 =>
        obtain ⟨u, a, b, c⟩ := ih h1 h2
        exact ⟨u, a, b.cons y, by rw [List.length_cons, List.length_cons]; omega⟩
    | cons_cons _ h1 =>
      cases h2 with
      | cons _ h2 =>
        obtain ⟨u, a, b, c⟩ := ih h1 h2
        exact ⟨u, a.cons y, b, by rw [List.length_cons, List.length_cons]; omega⟩
      | cons_cons _ h2 =>
        obtain ⟨u, a, b, c⟩ := ih h1 h2
        exact ⟨y :: u, a.cons_cons y, b.cons_cons y, by simp only [List.length_cons]; omega⟩

/-- the least number of deleted and inserted lines -/
def dist (a b : List α) : Int := (a.length : Int) + b.length - 2 * lcs a b
theorem dist_comm (a b : List α) : dist a b = dist b a := by unfold dist; rw [lcs_comm]; omega
theorem dist_tri (a b c : List α) : dist a c ≤ dist a b + dist b c := by
  obtain ⟨s, h1, h2, h3⟩ := lcs_has a b
  obtain ⟨t, h4, h5, h6⟩ := lcs_has b c
  obtain ⟨u, h7, h8, h9⟩ := meet h2 h4
  have := le_lcs (h7.trans h1) (h8.trans h5)
  unfold dist
  omega
theorem lcs_self (a : List α) : lcs a a = a.length := by
  have h1 := le_lcs (List.Sublist.refl a) (List.Sublist.refl a)
  have h2 := lcs_le_left a a
  omega
theorem dist_zero (a b : List α) : dist a b = 0 ↔ a = b := by
  constructor
  · intro h
    unfold dist at h
    have h1 := lcs_le_left a b
    have h2 := lcs_le_right a b
    obtain ⟨s, h3, h4, h5⟩ := lcs_has a b
    have e1 := h3.eq_of_length (by omega)
    have e2 := h4.eq_of_length (by omega)
    rw [← e1, e2]
  · rintro rfl
    unfold dist
    rw [lcs_self]; omega

/-- all choices, as the law makes them -/
def choices : List α → List (List α) → List (List α)
  | [], acc => acc
  | x :: xs, acc => choices xs (acc ++ acc.map (· ++ [x]))
theorem choices_mem : ∀ (a : List α) (acc : List (List α)) (s : List α), s ∈ choices a acc ↔ ∃ p q, p ∈ acc ∧ q.Sublist a ∧ s = p ++ q
  | [], acc, s => by
    unfold choices
    constructor
    · intro h; exact ⟨s, [], h, List.Sublist.refl _, by simp⟩
    · rintro ⟨p, q, h, hq, rfl⟩
      cases hq
      simpa using h
  | x :: xs, acc, s => by
    unfold choices
    rw [choices_mem xs]
    constructor
    · rintro ⟨p, q, h, hq, rfl⟩
      rcases List.mem_append.mp h with h | h
      · exact ⟨p, q, h, hq.cons x, rfl⟩
      · obtain ⟨p', hp, rfl⟩ := List.mem_map.mp h
        exact ⟨p', x :: q, hp, hq.cons_cons x, by simp⟩
    · rintro ⟨p, q, h, hq, rfl⟩
      cases hq with
      | cons _ hq => exact ⟨p, q, List.mem_append_left _ h, hq, rfl⟩
      | @cons_cons q' _ _ hq => exact ⟨p ++ [x], q', List.mem_append_right _ (List.mem_map.mpr ⟨p, h, rfl⟩), hq, by simp⟩
theorem choices_length : ∀ (a : List α) (acc : List (List α)), (choices a acc).length = acc.length * 2 ^ a.length
  | [], acc => by unfold choices; simp
  | x :: xs, acc => by
    unfold choices
    rw [choices_length xs, List.length_append, List.length_map, List.length_cons, Nat.pow_succ, ← Nat.two_mul, Nat.mul_comm 2, Nat.mul_assoc, Nat.mul_comm 2]

/-- the greedy walk of the law: how many of s are met -/
def met (s : List α) : List α → Nat → Nat
  | [], k => k
  | y :: ys, k => met s ys (if s[k]? = some y then k + 1 else k)
theorem met_le (s : List α) : ∀ (b : List α) (k : Nat), k ≤ s.length → met s b k ≤ s.length
  | [], k, h => h
  | y :: ys, k, h => by
    unfold met
    refine met_le s ys _ ?_
    split
    · rename_i e
      have := (List.getElem?_eq_some_iff.mp e).1
      omega
    · exact h
theorem met_iff (s : List α) : ∀ (b : List α) (k : Nat), k ≤ s.length → (met s b k = s.length ↔ (s.drop k).Sublist b)
  | [], k, h => by
    unfold met
    constructor
    · rintro rfl; simp
    · intro q
      have : s.drop k = [] := List.sublist_nil.mp q
      have := List.drop_eq_nil_iff.mp this
      omega
  | y :: ys, k, h => by
    unfold met
    by_cases e : s[k]? = some y
    · have hk := (List.getElem?_eq_some_iff.mp e)
      obtain ⟨hk, ek⟩ := hk
      rw [if_pos e, met_iff s ys (k + 1) (by omega), List.drop_eq_getElem_cons hk, ek]
      constructor
      · intro q; exact q.cons_cons y
      · intro q
        cases q with
        | cons _ q => exact (List.sublist_cons_self _ _).trans q
        | cons_cons _ q => exact q
    · rw [if_neg e, met_iff s ys k h]
      constructor
      · intro q; exact q.cons y
      · intro q
        by_cases hk : k < s.length
        · have e2 := List.drop_eq_getElem_cons hk
          rw [e2] at q ⊢
          cases q with
          | cons _ q => exact q
          | cons_cons _ q => exact absurd (by rw [List.getElem?_eq_getElem hk]) e
        · have : s.drop k = [] := List.drop_eq_nil_iff.mpr (by omega)
          rw [this]; exact List.nil_sublist _
/-- the best of some choices, as the law's loop keeps it -/
def best (b : List α) : List (List α) → Nat → Nat
  | [], m => m
  | s :: r, m => best b r (if m < s.length ∧ met s b 0 = s.length then s.length else m)
theorem best_spec (b : List α) (M : Nat) : ∀ (l : List (List α)) (m : Nat), m ≤ M → (∀ s ∈ l, s.Sublist b → s.length ≤ M) → (m = M ∨ ∃ s ∈ l, s.Sublist b ∧ s.length = M) → best b l m = M
  | [], m, h1, _, h3 => by
    unfold best
    rcases h3 with h | ⟨s, h, _⟩
    · exact h
    · cases h
  | s :: r, m, h1, h2, h3 => by
    unfold best
    have e := met_iff s b 0 (Nat.zero_le _)
    rw [List.drop_zero] at e
    have hs := h2 s List.mem_cons_self
    refine best_spec b M r _ ?_ (fun t ht => h2 t (List.mem_cons_of_mem _ ht)) ?_
    · split
      · rename_i q; exact hs (e.mp q.2)
      · exact h1
    · rcases h3 with rfl | ⟨t, ht, hb, hl⟩
      · left
        split
        · rename_i q
          have := hs (e.mp q.2)
          omega
        · rfl
      · rcases List.mem_cons.mp ht with rfl | ht
        · left
          split
          · exact hl
          · rename_i q
            have : ¬ m < t.length := fun z => q ⟨z, e.mpr hb⟩
            omega
        · exact .inr ⟨t, ht, hb, hl⟩
/-- trying all choices gives the longest common subsequence -/
theorem best_lcs (a b : List α) : best b (choices a [[]]) 0 = lcs a b := by
  refine best_spec b _ _ 0 (Nat.zero_le _) (fun s hs hb => ?_) ?_
  · obtain ⟨p, q, hp, hq, rfl⟩ := (choices_mem a [[]] s).mp hs
    have : p = [] := by simpa using hp
    subst this
    exact le_lcs hq hb
  · obtain ⟨s, h1, h2, h3⟩ := lcs_has a b
    exact .inr ⟨s, (choices_mem a [[]] s).mpr ⟨[], s, by simp, h1, rfl⟩, h2, h3⟩
end Lcs

namespace Toy
open PySem L2
def topS (i : Nat) : Stmt := PySem.Challenge.pw_sourcequeue_k09_least_changes.main.body.getD i (.Pass ⟨0, 0, 0, 0⟩)
abbrev s_common_lengths : Stmt := topS 1
abbrev N_common_lengths : List Str := ["old", "new", "rows", "line", "below", "row", "column", "kept"]
theorem sc_common_lengths : FnScope N_common_lengths ["old", "new"] (defScope s_common_lengths) := ⟨rfl, rfl, rfl, by decide +kernel, rfl, by decide +kernel, by decide +kernel⟩
abbrev s_least_changes : Stmt := topS 2
abbrev N_least_changes : List Str := ["old", "new"]
theorem sc_least_changes : FnScope N_least_changes ["old", "new"] (defScope s_least_changes) := ⟨rfl, rfl, rfl, by decide +kernel, rfl, by decide +kernel, by decide +kernel⟩
abbrev s_law_source : Stmt := topS 4
abbrev N_law_source : List Str := ["_law_script", "_law_index", "_law_cell"]
theorem sc_law_source : FnScope N_law_source ["_law_script", "_law_index"] (defScope s_law_source) := ⟨rfl, rfl, rfl, by decide +kernel, rfl, by decide +kernel, by decide +kernel⟩
abbrev s_law_draw : Stmt := topS 5
abbrev N_law_draw : List Str := ["_law_source_here", "_law_bound", "_law_digit", "_law_mixed"]
theorem sc_law_draw : FnScope N_law_draw ["_law_source_here", "_law_bound"] (defScope s_law_draw) := ⟨rfl, rfl, rfl, by decide +kernel, rfl, by decide +kernel, by decide +kernel⟩
abbrev s_law_shuffled : Stmt := topS 6
abbrev N_law_shuffled : List Str := ["_law_source_here", "_law_things", "_law_left", "_law_step"]
theorem sc_law_shuffled : FnScope N_law_shuffled ["_law_source_here", "_law_things"] (defScope s_law_shuffled) := ⟨rfl, rfl, rfl, by decide +kernel, rfl, by decide +kernel, by decide +kernel⟩
abbrev s_law_some_lines : Stmt := topS 7
abbrev N_law_some_lines : List Str := ["_law_source_here", "_law_most", "_law_words", "_law_size", "_law_ends", "_law_found", "_law_number", "_law_line"]
theorem sc_law_some_lines : FnScope N_law_some_lines ["_law_source_here", "_law_most", "_law_words"] (defScope s_law_some_lines) := ⟨rfl, rfl, rfl, by decide +kernel, rfl, by decide +kernel, by decide +kernel⟩
abbrev s_law_changed_lines : Stmt := topS 8
abbrev N_law_changed_lines : List Str := ["_law_source_here", "_law_lines", "_law_deeds", "_law_words", "_law_found", "_law_number", "_law_at", "_law_new", "_law_line"]
theorem sc_law_changed_lines : FnScope N_law_changed_lines ["_law_source_here", "_law_lines", "_law_deeds", "_law_words"] (defScope s_law_changed_lines) := ⟨rfl, rfl, rfl, by decide +kernel, rfl, by decide +kernel, by decide +kernel⟩
abbrev s_law_left_common : Stmt := topS 9
abbrev N_law_left_common : List Str := ["_law_old", "_law_new", "_law_table", "_law_row", "_law_one", "_law_other"]
theorem sc_law_left_common : FnScope N_law_left_common ["_law_old", "_law_new"] (defScope s_law_left_common) := ⟨rfl, rfl, rfl, by decide +kernel, rfl, by decide +kernel, by decide +kernel⟩
abbrev s_law_is_within : Stmt := topS 10
abbrev N_law_is_within : List Str := ["_law_some", "_law_lines", "_law_at", "_law_line"]
theorem sc_law_is_within : FnScope N_law_is_within ["_law_some", "_law_lines"] (defScope s_law_is_within) := ⟨rfl, rfl, rfl, by decide +kernel, rfl, by decide +kernel, by decide +kernel⟩
abbrev s_law_tried : Stmt := topS 11
abbrev N_law_tried : List Str := ["_law_old", "_law_new", "_law_best", "_law_all_choices", "_law_line", "_law_some"]
theorem sc_law_tried : FnScope N_law_tried ["_law_old", "_law_new"] (defScope s_law_tried) := ⟨rfl, rfl, rfl, by decide +kernel, rfl, by decide +kernel, by decide +kernel⟩
abbrev s_law : Stmt := topS 12
abbrev N_law : List Str := ["_law_script", "_law_index", "_law_source_here", "_law_turn", "_law_words", "_law_old", "_law_new", "_law_third", "_law_told", "_law_due"]
theorem sc_law : FnScope N_law ["_law_script"] (defScope s_law) := ⟨rfl, rfl, rfl, by decide +kernel, rfl, by decide +kernel, by decide +kernel⟩
structure Ad where
  a_common_lengths : Addr
  d_common_lengths : FuncData
  a_least_changes : Addr
  d_least_changes : FuncData
  a_law_source : Addr
  d_law_source : FuncData
  a_law_draw : Addr
  d_law_draw : FuncData
  a_law_shuffled : Addr
  d_law_shuffled : FuncData
  a_law_some_lines : Addr
  d_law_some_lines : FuncData
  a_law_changed_lines : Addr
  d_law_changed_lines : FuncData
  a_law_left_common : Addr
  d_law_left_common : FuncData
  a_law_is_within : Addr
  d_law_is_within : FuncData
  a_law_tried : Addr
  d_law_tried : FuncData
  a_law : Addr
  d_law : FuncData
structure Txt (K : PySem.W.Frag) (mg : Str → Option Value) (ad : Ad) : Prop where
  n_len : mg "len" = none
  n_list : mg "list" = none
  n_max : mg "max" = none
  n_min : mg "min" = none
  n_range : mg "range" = none
  n_repr : mg "repr" = none
  n_reversed : mg "reversed" = none
  n_str : mg "str" = none
  n_tuple : mg "tuple" = none
  f_common_lengths : Fun K "common_lengths" "common_lengths" s_common_lengths ad.a_common_lengths ad.d_common_lengths
  m_common_lengths : mg "common_lengths" = some (.ref ad.a_common_lengths)
  k_common_lengths : PySem.W.keepIn K (.ref ad.a_common_lengths) = true
  b_common_lengths : Binds K ad.d_common_lengths ["old", "new"] []
  f_least_changes : Fun K "least_changes" "least_changes" s_least_changes ad.a_least_changes ad.d_least_changes
  m_least_changes : mg "least_changes" = some (.ref ad.a_least_changes)
  k_least_changes : PySem.W.keepIn K (.ref ad.a_least_changes) = true
  b_least_changes : Binds K ad.d_least_changes ["old", "new"] []
  f_law_source : Fun K "_law_source" "_law_source" s_law_source ad.a_law_source ad.d_law_source
  m_law_source : mg "_law_source" = some (.ref ad.a_law_source)
  k_law_source : PySem.W.keepIn K (.ref ad.a_law_source) = true
  b_law_source : Binds K ad.d_law_source ["_law_script", "_law_index"] []
  f_law_draw : Fun K "_law_draw" "_law_draw" s_law_draw ad.a_law_draw ad.d_law_draw
  m_law_draw : mg "_law_draw" = some (.ref ad.a_law_draw)
  k_law_draw : PySem.W.keepIn K (.ref ad.a_law_draw) = true
  b_law_draw : Binds K ad.d_law_draw ["_law_source_here", "_law_bound"] []
  f_law_shuffled : Fun K "_law_shuffled" "_law_shuffled" s_law_shuffled ad.a_law_shuffled ad.d_law_shuffled
  m_law_shuffled : mg "_law_shuffled" = some (.ref ad.a_law_shuffled)
  k_law_shuffled : PySem.W.keepIn K (.ref ad.a_law_shuffled) = true
  b_law_shuffled : Binds K ad.d_law_shuffled ["_law_source_here", "_law_things"] []
  f_law_some_lines : Fun K "_law_some_lines" "_law_some_lines" s_law_some_lines ad.a_law_some_lines ad.d_law_some_lines
  m_law_some_lines : mg "_law_some_lines" = some (.ref ad.a_law_some_lines)
  k_law_some_lines : PySem.W.keepIn K (.ref ad.a_law_some_lines) = true
  b_law_some_lines : Binds K ad.d_law_some_lines ["_law_source_here", "_law_most", "_law_words"] []
  f_law_changed_lines : Fun K "_law_changed_lines" "_law_changed_lines" s_law_changed_lines ad.a_law_changed_lines ad.d_law_changed_lines
  m_law_changed_lines : mg "_law_changed_lines" = some (.ref ad.a_law_changed_lines)
  k_law_changed_lines : PySem.W.keepIn K (.ref ad.a_law_changed_lines) = true
  b_law_changed_lines : Binds K ad.d_law_changed_lines ["_law_source_here", "_law_lines", "_law_deeds", "_law_words"] []
  f_law_left_common : Fun K "_law_left_common" "_law_left_common" s_law_left_common ad.a_law_left_common ad.d_law_left_common
  m_law_left_common : mg "_law_left_common" = some (.ref ad.a_law_left_common)
  k_law_left_common : PySem.W.keepIn K (.ref ad.a_law_left_common) = true
  b_law_left_common : Binds K ad.d_law_left_common ["_law_old", "_law_new"] []
  f_law_is_within : Fun K "_law_is_within" "_law_is_within" s_law_is_within ad.a_law_is_within ad.d_law_is_within
  m_law_is_within : mg "_law_is_within" = some (.ref ad.a_law_is_within)
  k_law_is_within : PySem.W.keepIn K (.ref ad.a_law_is_within) = true
  b_law_is_within : Binds K ad.d_law_is_within ["_law_some", "_law_lines"] []
  f_law_tried : Fun K "_law_tried" "_law_tried" s_law_tried ad.a_law_tried ad.d_law_tried
  m_law_tried : mg "_law_tried" = some (.ref ad.a_law_tried)
  k_law_tried : PySem.W.keepIn K (.ref ad.a_law_tried) = true
  b_law_tried : Binds K ad.d_law_tried ["_law_old", "_law_new"] []
  f_law : Fun K "law" "law" s_law ad.a_law ad.d_law
  m_law : mg "law" = some (.ref ad.a_law)
  k_law : PySem.W.keepIn K (.ref ad.a_law) = true
  b_law : Binds K ad.d_law ["_law_script"] []
local macro_rules | `(tactic| tm_at "w") => `(tactic| (conv => whnf))
local macro_rules | `(tactic| tm_at "fr") => `(tactic| first | assumption | exact upd_none (by assumption) | exact upd_none (upd_none (by assumption)) | exact upd_none (upd_none (upd_none (by assumption))) | exact upd_none (upd_none (upd_none (upd_none (by assumption)))))
local macro_rules | `(tactic| tm_at "ne") => `(tactic| first | assumption | (apply Ne.symm; assumption) | exact upd_none_ne (by assumption) | exact (upd_none_ne (by assumption)).symm | exact upd_none_ne (upd_none (by assumption)) | exact (upd_none_ne (upd_none (by assumption))).symm | exact upd_none_ne (upd_none (upd_none (by assumption))) | exact (upd_none_ne (upd_none (upd_none (by assumption)))).symm)
local macro_rules | `(tactic| tm_at "heap") => `(tactic| first | assumption | exact upd_same | (refine upd_new ?_ (by tm_at "fr"); tm_at "heap") | (refine upd_oth (by tm_at "ne") ?_; tm_at "heap") | (refine SameB.get (by assumption) (by tm_at "ne") ?_; tm_at "heap") | (refine Same.get (by assumption) ?_; tm_at "heap"))
local macro_rules | `(tactic| tm_at "sq") => `(tactic| first | assumption | exact SqL.of (by tm_at "heap") | exact SqT.of (by tm_at "heap"))
local macro_rules | `(tactic| tm_at "ix") => `(tactic| (conv => whnf); first | refine ⟨_, _, .inl (by tm_at "sq"), rfl, ?_⟩ | refine ⟨_, _, .inr (by tm_at "sq"), rfl, ?_⟩)
local macro_rules | `(tactic| tm_at "sb") => `(tactic| first | assumption | exact SameB.refl | (refine SameB.ws ?_; tm_at "sb") | (refine SameB.wr ?_ (by tm_at "fr"); tm_at "sb") | (refine SameB.trans ?_ (by assumption); tm_at "sb"))
section
variable {P : Program} {w : World} {K : PySem.W.Frag} {mg : Str → Option Value} {base : Heap} {ad : Ad}
theorem ok_law_draw (T : Txt K mg ad) : FnOk P w K mg base CX0 1 ad.a_law_draw ad.d_law_draw ["_law_source_here", "_law_bound"] spDraw := by
  refine T.f_law_draw.ok sc_law_draw (fun vs H Q E h => ?_) (fun cdv A outer s H vs Q E hr h => ?_)
  · obtain ⟨s, n, k, xs, rfl, _⟩ := h; rfl
  · obtain ⟨s, n, k, xs, rfl, hs, ⟨a, b, c, rfl, ha, hb, hb2, hc, hc2⟩, hk, hn, hn2, q⟩ := h
    refine ⟨_, pss_cons (cs_if (ct_cmp oc_gt (pe_ix (ic_seq (K := K)) (cv 0) pe_int (fun _ _ => rfl)) pe_int (nomark _))
        (pss_cons (ps_set (i := 2) sc_law_draw.nd rfl (by first | exact Or.inl rfl | exact Or.inr rfl) (pe_op oc_mod (pe_ix (ic_seq (K := K)) (cv 0) pe_int (fun _ _ => rfl)) (cv 1)))
        (pss_cons (ps_asg (pe_op oc_div (pe_ix (ic_seq (K := K)) (cv 0) pe_int (fun _ _ => rfl)) (cv 1)) (pg_sub (cv 0) pe_int set_c))
        (pss_one (ps_ret (cv 2)))))
        pss_nil)
      (pss_cons (ps_asg (pe_op (oc_add (K := K)) (pe_ix (ic_seq (K := K)) (cv 0) pe_int (fun _ _ => rfl)) pe_int) (pg_sub (cv 0) pe_int set_c))
      (pss_cons (ps_set (i := 3) sc_law_draw.nd rfl (by first | exact Or.inl rfl | exact Or.inr rfl) (pe_op oc_mod (pe_op oc_pow (pe_op (oc_add (K := K)) (pe_ix (ic_seq (K := K)) (cv 0) pe_int (fun _ _ => rfl)) (pe_op oc_mul pe_int (pe_ix (ic_seq (K := K)) (cv 0) pe_int (fun _ _ => rfl)))) pe_int) (pe_op (oc_add (K := K)) (pe_op oc_pow pe_int pe_int) pe_int)))
      (pss_cons (ps_set (i := 3) sc_law_draw.nd rfl (by first | exact Or.inl rfl | exact Or.inr rfl) (pe_op oc_mod (pe_op oc_pow (pe_op (oc_add (K := K)) (cv 3) (pe_op oc_mul pe_int (pe_ix (ic_seq (K := K)) (cv 0) pe_int (fun _ _ => rfl)))) pe_int) (pe_op (oc_add (K := K)) (pe_op oc_pow pe_int pe_int) pe_int)))
      (pss_one (ps_ret (pe_op oc_mod (pe_op oc_div (cv 3) pe_int) (cv 1))))))), ?_⟩
    tm_at "ix"
    refine ⟨fun h => ?_, fun h => ?_⟩
    · have h := of_decide_eq_true h
      tm_at "ix"
      refine ⟨hn, ?_⟩
      tm_at "ix"
      refine ⟨wide_div hn (b := 200) (by omega) (by decide) (by decide), ?_⟩
      tm_at "w"
      refine ⟨_, 0, hs, rfl, ?_⟩
      exact q _ _ (Int.emod_nonneg _ (by omega)) (Int.emod_lt_of_pos _ hn) ⟨a / n, b, c, rfl, Int.ediv_nonneg ha (by omega), hb, hb2, hc, by omega⟩
    · tm_at "ix"
      tm_at "w"
      refine ⟨_, 2, hs, rfl, ?_⟩
      tm_at "ix"
      tm_at "ix"
      refine ⟨.inl (by decide), ?_⟩
      have e1 : (b + 15485863 * (c + 1)).natAbs < 2 ^ 201 := by omega
      refine ⟨pow_bits e1 (by decide) (by decide) (by decide), ?_⟩
      refine ⟨pow_bits (a := 4) (by decide) (by decide) (by decide) (by decide), ?_⟩
      refine ⟨(by show (0 : Int) < 10 ^ 35 + 69; decide), ?_⟩
      have e2 : ∀ m : Int, 0 ≤ m → m < 2 ^ 130 → (m + 32452843 * (c + 1)).natAbs < 2 ^ 201 := by intro m h1 h2; omega
      tm_at "ix"
      refine ⟨.inl (by decide), ?_⟩
      refine ⟨pow_bits (e2 _ (Int.emod_nonneg _ (by decide)) (Int.lt_trans (Int.emod_lt_of_pos _ (by decide)) (by decide))) (by decide) (by decide) (by decide), ?_⟩
      refine ⟨pow_bits (a := 4) (by decide) (by decide) (by decide) (by decide), ?_⟩
      refine ⟨(by show (0 : Int) < 10 ^ 32 + 49; decide), ?_⟩
      refine ⟨wide_div (by decide) (b := 20) (by decide) (by decide) (by decide), ?_⟩
      refine ⟨hn, ?_⟩
      exact q _ _ (Int.emod_nonneg _ (by omega)) (Int.emod_lt_of_pos _ hn) ⟨a, b, c + 1, rfl, ha, hb, hb2, by omega, by omega⟩
theorem ok_law_source (T : Txt K mg ad) : FnOk P w K mg base CX0 1 ad.a_law_source ad.d_law_source ["_law_script", "_law_index"] (spSource K) := by
  refine T.f_law_source.ok sc_law_source (fun vs H Q E h => ?_) (fun cdv A outer s H vs Q E hr h => ?_)
  · obtain ⟨a, i, ns, rfl, _⟩ := h; rfl
  · obtain ⟨a, i, ns, rfl, hs, hl, hi, hi2, q⟩ := h
    refine ⟨_, pss_cons (ps_set (i := 2) sc_law_source.nd rfl (by first | exact Or.inl rfl | exact Or.inr rfl) pe_int)
      (pss_cons (PS.cut (cs_if (ct_cmp oc_lt (cv 1) (pe_callB (cc_len (K := K)) (by rfl) T.n_len (by decide +kernel) (pa_cons (cv 0) pa_nil)) (nomark _))
        (pss_one (ps_set (i := 2) sc_law_source.nd rfl (by first | exact Or.inl rfl | exact Or.inr rfl) (pe_ix (ic_seq (K := K)) (cv 0) (cv 1) (fun _ _ => rfl))))
        pss_nil))
      (pss_one (ps_ret (pe_lst (pa_cons (pe_callB (cc_max rfl) (by rfl) T.n_max (by decide +kernel) (pa_cons pe_int (pa_cons (pe_op oc_sub (cv 2) (pe_op oc_pow pe_int pe_int)) pa_nil))) (pa_cons (pe_op (oc_add (K := K)) (pe_op oc_mod (cv 2) (pe_op (oc_add (K := K)) (pe_op oc_pow pe_int pe_int) pe_int)) (pe_op oc_mul pe_int (cv 1))) (pa_cons pe_int pa_nil))))))), ?_⟩
    refine ⟨fun σ' H' => ∃ c : Int, σ' = [some (.ref a), some (.int i), some (.int c)] ∧ H' = H, ?_, ?_⟩
    · tm_at "w"
      refine ⟨ns.map V.int, .inl hs, fun h => ?_, fun h => ⟨_, rfl, rfl⟩⟩
      have h := of_decide_eq_true h
      rw [List.length_map] at h
      obtain ⟨j, rfl⟩ := Int.eq_ofNat_of_zero_le hi
      have hj : j < ns.length := by omega
      exact ⟨_, _, .inl hs, atI_nat (by rw [List.getElem?_map, List.getElem?_eq_getElem hj]; rfl), _, rfl, rfl⟩
    · rintro σ' H' ⟨c, rfl, rfl⟩
      refine ⟨pow_bits (a := 4) (by decide) (by decide) (by decide) (by decide), ?_⟩
      refine ⟨pow_bits (a := 4) (by decide) (by decide) (by decide) (by decide), ?_⟩
      refine ⟨(by show (0 : Int) < 10 ^ 37 + 43; decide), ?_⟩
      refine ⟨.inl (by decide), by show 3 ≤ sizeLine; decide, fun p hp => q _ _ hp ?_⟩
      have h1 : 0 ≤ c % (10 ^ 37 + 43) := Int.emod_nonneg _ (by decide)
      have h2 : c % (10 ^ 37 + 43) < 10 ^ 37 + 43 := Int.emod_lt_of_pos _ (by decide)
      exact ⟨_, _, _, rfl, Int.le_max_left _ _, (by show 0 ≤ c % (10 ^ 37 + 43) + 1299709 * i; omega), (by show c % (10 ^ 37 + 43) + 1299709 * i < 2 ^ 200; omega), by decide, by decide⟩
end
end Toy

namespace Toy
open PySem L2
local macro_rules | `(tactic| tm_at "w") => `(tactic| (conv => whnf))
local macro_rules | `(tactic| tm_at "fr") => `(tactic| first | assumption | exact upd_none (by assumption) | exact upd_none (upd_none (by assumption)) | exact upd_none (upd_none (upd_none (by assumption))) | exact upd_none (upd_none (upd_none (upd_none (by assumption)))))
local macro_rules | `(tactic| tm_at "ne") => `(tactic| first | assumption | (apply Ne.symm; assumption) | exact upd_none_ne (by assumption) | exact (upd_none_ne (by assumption)).symm | exact upd_none_ne (upd_none (by assumption)) | exact (upd_none_ne (upd_none (by assumption))).symm | exact upd_none_ne (upd_none (upd_none (by assumption))) | exact (upd_none_ne (upd_none (upd_none (by assumption)))).symm)
local macro_rules | `(tactic| tm_at "heap") => `(tactic| first | assumption | exact upd_same | (refine upd_new ?_ (by tm_at "fr"); tm_at "heap") | (refine upd_oth (by tm_at "ne") ?_; tm_at "heap") | (refine SameB.get (by assumption) (by tm_at "ne") ?_; tm_at "heap") | (refine Same.get (by assumption) ?_; tm_at "heap"))
local macro_rules | `(tactic| tm_at "sq") => `(tactic| first | assumption | exact SqL.of (by tm_at "heap") | exact SqT.of (by tm_at "heap"))
local macro_rules | `(tactic| tm_at "ix") => `(tactic| (conv => whnf); first | refine ⟨_, _, .inl (by tm_at "sq"), rfl, ?_⟩ | refine ⟨_, _, .inr (by tm_at "sq"), rfl, ?_⟩)
local macro_rules | `(tactic| tm_at "sb") => `(tactic| first | assumption | exact SameB.refl | (refine SameB.ws ?_; tm_at "sb") | (refine SameB.wr ?_ (by tm_at "fr"); tm_at "sb") | (refine SameB.trans ?_ (by assumption); tm_at "sb"))
/-- some lines: texts of at most 40 signs -/
def spLines : Sp := fun vs H Q _ => ∃ (s : Addr) (most words : Int) (k : Nat) (xs : List V), vs = [.ref s, .int most, .int words] ∧ H s = some (.lst xs) ∧ SrcL k xs ∧ k < 2 ^ 50 ∧ 0 ≤ most ∧ most ≤ 10 ^ 6 ∧ words ≤ 5 ∧
  ∀ (ls : List Str) (p : Addr) (ys : List V) (H' : Hp), (ls.length : Int) ≤ most → (∀ l ∈ ls, l.length ≤ 40) → H p = none → H' p = some (.lst (ls.map V.str)) → H' s = some (.lst ys) → SrcL (k + 1 + 3 * most.toNat) ys → SameB s H H' → Q (.ref p) H'
section
variable {P : Program} {w : World} {K : PySem.W.Frag} {mg : Str → Option Value} {base : Heap} {ad : Ad}
theorem ok_law_some_lines (T : Txt K mg ad) : FnOk P w K mg base CX0 2 ad.a_law_some_lines ad.d_law_some_lines ["_law_source_here", "_law_most", "_law_words"] spLines := by
  refine T.f_law_some_lines.ok sc_law_some_lines (fun vs H Q E h => ?_) (fun cdv A outer s H vs Q E hr h => ?_)
  · obtain ⟨s, n, m, k, xs, rfl, _⟩ := h; rfl
  · obtain ⟨s, most, words, k, xs, rfl, hs, hx, hk, hm0, hm1, hw, q⟩ := h
    refine ⟨_, pss_cons (ps_set (i := 3) sc_law_some_lines.nd rfl (by first | exact Or.inl rfl | exact Or.inr rfl) (pe_call (ok_law_draw T) (hr.mono (by decide)) rfl T.m_law_draw T.k_law_draw T.b_law_draw .nil pass0 (pa_cons (cv 0) (pa_cons (pe_op (oc_add (K := K)) (cv 1) pe_int) pa_nil))))
      (pss_cons (ps_set (i := 4) sc_law_some_lines.nd rfl (by first | exact Or.inl rfl | exact Or.inr rfl) (pe_lst (pa_cons pe_str (pa_cons pe_str (pa_cons pe_str (pa_cons pe_str (pa_cons pe_str (pa_cons pe_str pa_nil))))))))
      (pss_cons (ps_set (i := 5) sc_law_some_lines.nd rfl (by first | exact Or.inl rfl | exact Or.inr rfl) (pe_lst pa_nil))
      (pss_cons (ps_for PassesOwn.never rfl (pi_range1 rfl T.n_range (pa_cons (cv 3) pa_nil)) (pg_name (i := 6) sc_law_some_lines.nd rfl (by first | exact Or.inl rfl | exact Or.inr rfl))
        (pss_cons (ps_set (i := 7) sc_law_some_lines.nd rfl (by first | exact Or.inl rfl | exact Or.inr rfl) (pe_op (oc_add (K := K)) (pe_op (oc_add (K := K)) (pe_op (oc_add (K := K)) pe_str (pe_callTy cc_str (by rfl) T.n_str (by decide +kernel) (pa_cons (cv 6) pa_nil))) pe_str) (pe_callTy cc_str (by rfl) T.n_str (by decide +kernel) (pa_cons (pe_call (ok_law_draw T) (hr.mono (by decide)) rfl T.m_law_draw T.k_law_draw T.b_law_draw .nil pass0 (pa_cons (cv 0) (pa_cons (pe_op oc_pow pe_int pe_int) pa_nil))) pa_nil))))
        (pss_cons (PS.cut (cs_if (ct_cmp oc_gt (cv 2) pe_int (nomark _))
          (pss_one (ps_set (i := 7) sc_law_some_lines.nd rfl (by first | exact Or.inl rfl | exact Or.inr rfl) (pe_ix (ic_seq (K := K)) (pe_lst (pa_cons pe_str (pa_cons pe_str (pa_cons pe_str (pa_cons pe_str (pa_cons pe_str pa_nil)))))) (pe_call (ok_law_draw T) (hr.mono (by decide)) rfl T.m_law_draw T.k_law_draw T.b_law_draw .nil pass0 (pa_cons (cv 0) (pa_cons (cv 2) pa_nil))) (fun _ _ => rfl))))
          pss_nil))
        (pss_one (ps_expr (pe_bm PySem.F.plainAttrs_list PySem.F.slot_list_append PySem.F.type_list_append (mc_append) (cv 5) (pa_cons (pe_op (oc_add (K := K)) (cv 7) (pe_ix (ic_seq (K := K)) (cv 4) (pe_call (ok_law_draw T) (hr.mono (by decide)) rfl T.m_law_draw T.k_law_draw T.b_law_draw .nil pass0 (pa_cons (cv 0) (pa_cons pe_int pa_nil))) (fun _ _ => rfl))) pa_nil)))))))
      (pss_one (ps_ret (cv 5)))))), ?_⟩
    refine ⟨s, _, k, xs, rfl, hs, hx, by omega, by omega, by omega, fun d ys hd0 hd1 hy => ?_⟩
    refine ⟨by show 6 ≤ sizeLine; decide, fun e he => ⟨Nat.zero_le _, fun f hf => ?_⟩⟩
    have nes : s ≠ e := ne_of_none upd_same he
    have nfs : s ≠ f := ne_of_none (upd_oth nes upd_same) hf
    have nef : e ≠ f := ne_of_none upd_same hf
    have he0 : H e = none := by rw [upd_ne nes.symm] at he; exact he
    have hf0 : H f = none := by rw [upd_ne nef.symm, upd_ne nfs.symm] at hf; exact hf
    refine ⟨d, rfl, by omega, by omega, ?_⟩
    refine for_range (lo := 0) (n := d.toNat) (fun i σ H' => ∃ (ls : List Str) (ys : List V) (u v : Option V), σ = [some (.ref s), some (.int most), some (.int words), some (.int d), some (.ref e), some (.ref f), u, v] ∧ ls.length = i ∧ (∀ l ∈ ls, l.length ≤ 40) ∧
      H' e = some (.lst [.str "", .str "", .str "", .str "", .str " ", .str "A"]) ∧ H' f = some (.lst (ls.map V.str)) ∧ H' s = some (.lst ys) ∧ SrcL (k + 1 + 3 * i) ys ∧ SameB s H H') ?_ ?_ ?_
    · exact ⟨[], ys, none, none, rfl, rfl, fun _ h => (nomatch h), upd_new upd_same hf, upd_same, upd_oth nfs (upd_oth nes upd_same), hy, SameB.wr (SameB.wr SameB.at he0) hf0⟩
    · rintro i σ H1 hi ⟨ls, ys, u, v, rfl, hl, hls, h1, h2, h3, h4, h5⟩
      have hz : 0 + (i : Int) < 10 ^ 7 := by omega
      have hz0 : 0 ≤ 0 + (i : Int) := by omega
      have l1 := str_len_num hz0 (by decide) hz
      refine ⟨log2_small (a := 64) (by omega) (by decide) (by decide), ?_⟩
      refine ⟨by rw [sizeLine_eq]; show 5 + _ ≤ _; omega, ?_⟩
      refine ⟨by rw [sizeLine_eq, str_len_app]; show 5 + _ + 1 ≤ _; omega, ?_⟩
      refine ⟨pow_bits (a := 4) (by decide) (by decide) (by decide) (by decide), ?_⟩
      refine ⟨s, _, _, ys, rfl, h3, h4, by omega, by decide, by decide, fun d1 ys1 hd10 hd11 hy1 => ?_⟩
      have l2 := str_len_num (k := 6) hd10 (by decide) hd11
      refine ⟨log2_small (a := 64) (by have : d1 < 10 ^ 6 := hd11; omega) (by decide) (by decide), ?_⟩
      have l3 : ((((Str.ofString "line ") ++ Str.ofString (toString (0 + (i : Int)))) ++ Str.ofString " ") ++ Str.ofString (toString d1)).length ≤ 39 := by
        simp only [str_len_app]; show 5 + _ + 1 + _ ≤ _; omega
      refine ⟨by rw [sizeLine_eq, ← str_len_app]; exact Nat.le_trans l3 (by decide), ?_⟩
      refine ⟨fun σ' H' => ∃ (z : Str) (ys : List V), σ' = [some (.ref s), some (.int most), some (.int words), some (.int d), some (.ref e), some (.ref f), some (.int (0 + (i : Int))), some (.str z)] ∧ z.length ≤ 39 ∧
        H' e = some (.lst [.str "", .str "", .str "", .str "", .str " ", .str "A"]) ∧ H' f = some (.lst (ls.map V.str)) ∧ H' s = some (.lst ys) ∧ SrcL (k + 1 + 3 * i + 2) ys ∧ SameB s H H', ?_, ?_⟩
      · refine ⟨fun h => ?_, fun h => ⟨_, ys1, rfl, l3, upd_oth nes.symm h1, upd_oth nfs.symm h2, upd_same, hy1.mono (by omega), h5.ws⟩⟩
        have h := of_decide_eq_true h
        refine ⟨by show 5 ≤ sizeLine; decide, fun p hp => ?_⟩
        have nps : s ≠ p := ne_of_none upd_same hp
        have npe : e ≠ p := ne_of_none (upd_oth nes.symm h1) hp
        have npf : f ≠ p := ne_of_none (upd_oth nfs.symm h2) hp
        have hp0 : H p = none := by rw [upd_ne nps.symm] at hp; exact h5.free nps.symm hp
        refine ⟨s, _, _, ys1, rfl, upd_oth nps upd_same, hy1, by omega, h, by omega, fun d2 ys2 hd20 hd21 hy2 => ?_⟩
        obtain ⟨z, hz1, hz2⟩ := atI_strs (ls := ["a", "b", "", "c c", "dd"]) hd20 (by show d2 < 5; omega)
        refine ⟨_, _, .inl (SqL.of (upd_oth nps.symm upd_same)), hz2, z, ys2, rfl, ?_, ?_, ?_, upd_same, hy2, SameB.ws (SameB.wr (SameB.ws h5) hp0)⟩
        · have : ∀ z ∈ (["a", "b", "", "c c", "dd"] : List Str), z.length ≤ 39 := by decide
          exact this z hz1
        · exact upd_oth nes.symm (upd_oth npe (upd_oth nes.symm h1))
        · exact upd_oth nfs.symm (upd_oth npf (upd_oth nfs.symm h2))
      · rintro σ' H2 ⟨z, ys2, rfl, hz, g1, g2, g3, g4, g5⟩
        refine ⟨.inl ⟨rfl, _, SqL.of g2⟩, ?_⟩
        refine ⟨s, _, _, ys2, rfl, g3, g4, by omega, by decide, by decide, fun d3 ys3 hd30 hd31 hy3 => ?_⟩
        obtain ⟨z2, hz1, hz2⟩ := atI_strs (ls := ["", "", "", "", " ", "A"]) hd30 hd31
        refine ⟨_, _, .inl (SqL.of (upd_oth nes.symm g1)), hz2, ?_⟩
        have hz3 : z2.length ≤ 1 := by
          have : ∀ z ∈ (["", "", "", "", " ", "A"] : List Str), z.length ≤ 1 := by decide
          exact this z2 hz1
        refine ⟨by rw [sizeLine_eq]; omega, _, upd_oth nfs.symm g2, by rw [List.length_map, sizeLine_eq]; omega, ?_⟩
        refine ⟨ls ++ [z ++ z2], ys3, _, _, rfl, by rw [List.length_append, hl]; rfl, ?_, upd_oth nef (upd_oth nes.symm g1), by rw [upd_same, List.map_append]; rfl, upd_oth nfs upd_same, hy3.mono (by omega), SameB.wr g5.ws hf0⟩
        intro l hl
        rcases List.mem_append.mp hl with h | h
        · exact hls l h
        · rw [List.mem_singleton.mp h, str_len_app]; omega
    · rintro σ H1 ⟨ls, ys, u, v, rfl, hl, hls, h1, h2, h3, h4, h5⟩
      exact q ls f ys H1 (by omega) hls hf0 h2 h3 (h4.mono (by omega)) h5
end
end Toy

namespace Toy
open PySem L2
local macro_rules | `(tactic| tm_at "w") => `(tactic| (conv => whnf))
local macro_rules | `(tactic| tm_at "fr") => `(tactic| first | assumption | exact upd_none (by assumption) | exact upd_none (upd_none (by assumption)) | exact upd_none (upd_none (upd_none (by assumption))) | exact upd_none (upd_none (upd_none (upd_none (by assumption)))))
local macro_rules | `(tactic| tm_at "ne") => `(tactic| first | assumption | (apply Ne.symm; assumption) | exact upd_none_ne (by assumption) | exact (upd_none_ne (by assumption)).symm | exact upd_none_ne (upd_none (by assumption)) | exact (upd_none_ne (upd_none (by assumption))).symm | exact upd_none_ne (upd_none (upd_none (by assumption))) | exact (upd_none_ne (upd_none (upd_none (by assumption)))).symm)
local macro_rules | `(tactic| tm_at "heap") => `(tactic| first | assumption | exact upd_same | (refine upd_new ?_ (by tm_at "fr"); tm_at "heap") | (refine upd_oth (by tm_at "ne") ?_; tm_at "heap") | (refine SameB.get (by assumption) (by tm_at "ne") ?_; tm_at "heap") | (refine Same.get (by assumption) ?_; tm_at "heap"))
local macro_rules | `(tactic| tm_at "sq") => `(tactic| first | assumption | exact SqL.of (by tm_at "heap") | exact SqT.of (by tm_at "heap"))
local macro_rules | `(tactic| tm_at "ix") => `(tactic| (conv => whnf); first | refine ⟨_, _, .inl (by tm_at "sq"), rfl, ?_⟩ | refine ⟨_, _, .inr (by tm_at "sq"), rfl, ?_⟩)
local macro_rules | `(tactic| tm_at "sb") => `(tactic| first | assumption | exact SameB.refl | (refine SameB.ws ?_; tm_at "sb") | (refine SameB.wr ?_ (by tm_at "fr"); tm_at "sb") | (refine SameB.trans ?_ (by assumption); tm_at "sb"))
/-- lines after some changes -/
def spChanged (K : PySem.W.Frag) : Sp := fun vs H Q _ => ∃ (s l : Addr) (deeds words : Int) (k : Nat) (xs : List V) (ls : List Str), vs = [.ref s, .ref l, .int deeds, .int words] ∧ H s = some (.lst xs) ∧ SrcL k xs ∧ k < 2 ^ 40 ∧ SqL K H l (ls.map V.str) ∧ l ≠ s ∧
  ls.length ≤ 1000 ∧ (∀ x ∈ ls, x.length ≤ 60) ∧ 0 ≤ deeds ∧ deeds ≤ 100 ∧ words ≤ 5 ∧
  ∀ (rs : List Str) (p : Addr) (ys : List V) (H' : Hp), (rs.length : Int) ≤ ls.length + 3 * deeds → (∀ x ∈ rs, x.length ≤ 60) → H p = none → H' p = some (.lst (rs.map V.str)) → H' s = some (.lst ys) → SrcL (k + 1 + 12 * deeds.toNat) ys → SameB s H H' → Q (.ref p) H'
section
variable {P : Program} {w : World} {K : PySem.W.Frag} {mg : Str → Option Value} {base : Heap} {ad : Ad}
theorem ok_law_changed_lines (T : Txt K mg ad) : FnOk P w K mg base CX0 3 ad.a_law_changed_lines ad.d_law_changed_lines ["_law_source_here", "_law_lines", "_law_deeds", "_law_words"] (spChanged K) := by
  refine T.f_law_changed_lines.ok sc_law_changed_lines (fun vs H Q E h => ?_) (fun cdv A outer s H vs Q E hr h => ?_)
  · obtain ⟨s, l, n, m, k, xs, ls, rfl, _⟩ := h; rfl
  · obtain ⟨s, l, deeds, words, k, xs, ls, rfl, hs, hx, hk, hl, nls, hlen, hbd, hd0, hd1, hw, q⟩ := h
    refine ⟨_, pss_cons (ps_set (i := 4) sc_law_changed_lines.nd rfl (by first | exact Or.inl rfl | exact Or.inr rfl) (pe_callTy (cc_list (K := K)) (by rfl) T.n_list (by decide +kernel) (pa_cons (cv 1) pa_nil)))
      (pss_cons (ps_for PassesOwn.never rfl (pi_range1 rfl T.n_range (pa_cons (pe_call (ok_law_draw T) (hr.mono (by decide)) rfl T.m_law_draw T.k_law_draw T.b_law_draw .nil pass0 (pa_cons (cv 0) (pa_cons (pe_op (oc_add (K := K)) (cv 2) pe_int) pa_nil))) pa_nil)) (pg_name (i := 5) sc_law_changed_lines.nd rfl (by first | exact Or.inl rfl | exact Or.inr rfl))
        (pss_cons (ps_set (i := 6) sc_law_changed_lines.nd rfl (by first | exact Or.inl rfl | exact Or.inr rfl) (pe_call (ok_law_draw T) (hr.mono (by decide)) rfl T.m_law_draw T.k_law_draw T.b_law_draw .nil pass0 (pa_cons (cv 0) (pa_cons (pe_op (oc_add (K := K)) (pe_callB (cc_len (K := K)) (by rfl) T.n_len (by decide +kernel) (pa_cons (cv 4) pa_nil)) pe_int) pa_nil))))
        (pss_cons (ps_set (i := 7) sc_law_changed_lines.nd rfl (by first | exact Or.inl rfl | exact Or.inr rfl) (pe_call (ok_law_some_lines T) (hr.mono (by decide)) rfl T.m_law_some_lines T.k_law_some_lines T.b_law_some_lines .nil pass0 (pa_cons (cv 0) (pa_cons pe_int (pa_cons (cv 3) pa_nil)))))
        (pss_cons (PS.cut (cs_if (ct_cmp (oc_eq (K := K) hr.units) (cv 3) pe_int (nomark _))
          (pss_one (ps_setLc (i := 7) (own := [("_law_line", 8)]) (g := gName 8) (by rfl) sc_law_changed_lines.nd rfl rfl (sw_true rfl rfl rfl (by decide +kernel)) (pic_seq (K := K) (cv 7)) (blkOk_by (own := [("_law_line", 8)]) (N := N_law_changed_lines) (sc := defScope s_law_changed_lines) (by decide +kernel)) (fun _ _ _ _ _ => pg_name (i := 8) sc_law_changed_lines.nd rfl (by first | exact Or.inl rfl | exact Or.inr rfl)) (fun _ _ _ _ _ => pts_nil) (fun _ _ _ _ _ => pe_op (oc_add (K := K)) (pe_op (oc_add (K := K)) (cv 8) pe_str) (pe_callTy cc_str (by rfl) T.n_str (by decide +kernel) (pa_cons (cv 5) pa_nil)))))
          pss_nil))
        (pss_one (ps_set (i := 4) sc_law_changed_lines.nd rfl (by first | exact Or.inl rfl | exact Or.inr rfl) (pe_op (oc_add (K := K)) (pe_op (oc_add (K := K)) (pe_slice (sc_U (K := K)) (cv 4) po_none (poc (cv 6))) (cv 7)) (pe_slice (sc_U (K := K)) (cv 4) (poc (pe_op (oc_add (K := K)) (cv 6) (pe_call (ok_law_draw T) (hr.mono (by decide)) rfl T.m_law_draw T.k_law_draw T.b_law_draw .nil pass0 (pa_cons (cv 0) (pa_cons pe_int pa_nil))))) po_none))))))))
      (pss_one (ps_ret (cv 4)))), ?_⟩
    tm_at "w"
    refine ⟨_, .inl hl, fun f hf => ?_⟩
    have nsf : s ≠ f := ne_of_none hs hf
    refine ⟨s, _, k, xs, rfl, by tm_at "heap", hx, by omega, by omega, by omega, fun d ys hdd0 hdd1 hy => ?_⟩
    refine ⟨d, rfl, by omega, by omega, ?_⟩
    refine for_range (lo := 0) (n := d.toNat) (fun i σ H' => ∃ (rs : List Str) (ys : List V) (f : Addr) (u1 u2 u3 u4 : Option V), σ = [some (.ref s), some (.ref l), some (.int deeds), some (.int words), some (.ref f), u1, u2, u3, u4] ∧ (rs.length : Int) ≤ ls.length + 3 * i ∧ (∀ x ∈ rs, x.length ≤ 60) ∧
      H f = none ∧ f ≠ s ∧ H' f = some (.lst (rs.map V.str)) ∧ H' s = some (.lst ys) ∧ SrcL (k + 1 + 12 * i) ys ∧ SameB s H H') ?_ ?_ ?_
    · exact ⟨ls, ys, f, none, none, none, none, rfl, by omega, hbd, hf, nsf.symm, by tm_at "heap", by tm_at "heap", hy, by tm_at "sb"⟩
    · rintro i σ H1 hi ⟨rs, ys, f, u1, u2, u3, u4, rfl, hrl, hrb, hf, nfs, g1, g2, g3, g4⟩
      tm_at "w"
      refine ⟨_, .inl (SqL.of g1), ?_⟩
      rw [List.length_map]
      refine ⟨s, _, _, ys, rfl, g2, g3, by omega, by omega, by omega, fun d1 ys1 hd10 hd11 hy1 => ?_⟩
      refine ⟨s, _, _, _, ys1, rfl, by tm_at "heap", hy1, by omega, by decide, by decide, hw, fun nw n ys2 H2 hn1 hn2 hn3 hn4 hn5 hn6 hn7 => ?_⟩
      have hn2' : ∀ x ∈ nw, x.length ≤ 60 := fun x hx => Nat.le_trans (hn2 x hx) (by decide)
      have nns : n ≠ s := by tm_at "ne"
      have hf2 : H2 f = some (.lst (rs.map V.str)) := by tm_at "heap"
      have sb2 : SameB s H H2 := by tm_at "sb"
      have hn0 : H n = none := g4.free nns (by tm_at "fr")
      refine ⟨fun σ' H' => ∃ (nw : List Str) (n : Addr) (u4 : Option V), σ' = [some (.ref s), some (.ref l), some (.int deeds), some (.int words), some (.ref f), some (.int (0 + (i : Int))), some (.int d1), some (.ref n), u4] ∧ nw.length ≤ 3 ∧ (∀ x ∈ nw, x.length ≤ 60) ∧ H n = none ∧
        n ≠ s ∧ H' n = some (.lst (nw.map V.str)) ∧ H' f = some (.lst (rs.map V.str)) ∧ H' s = some (.lst ys2) ∧ SameB s H H', ?_, ?_⟩
      · refine ⟨fun h => ?_, fun h => ⟨nw, n, _, rfl, by omega, hn2', hn0, nns, hn4, by tm_at "heap", hn5, sb2⟩⟩
        refine .inl ⟨n, rfl, ⟨_, SqL.of hn4⟩, fun D hD => ?_⟩
        have nDs : D ≠ s := (ne_of_none hn5 hD).symm
        have nDn : D ≠ n := (ne_of_none hn4 hD).symm
        have hD0 : H D = none := sb2.free nDs hD
        refine lc_list (K := K) (a := n) (xs := nw.map V.str) (fun i H' => ∃ acc : List Str, acc.length = i ∧ (∀ x ∈ acc, x.length ≤ 60) ∧ H' = upd H2 D (.lst (acc.map V.str))) ⟨[], rfl, fun _ h => (nomatch h), rfl⟩ ?_ ?_ ?_
        · rintro j H3 _ ⟨acc, _, _, rfl⟩
          exact SqL.of (by tm_at "heap")
        · rintro j x H3 hx ⟨acc, h1, h2, rfl⟩
          rw [List.getElem?_map] at hx
          obtain ⟨z, hz, rfl⟩ := Option.map_eq_some_iff.mp hx
          have hz' := hn2 z (List.mem_of_getElem? hz)
          have l1 := str_len_num (v := 0 + (i : Int)) (k := 7) (by omega) (by decide) (by omega)
          refine ⟨rfl, ?_⟩
          tm_at "w"
          refine ⟨by rw [sizeLine_eq]; show _ + 4 ≤ _; omega, ?_⟩
          refine ⟨log2_small (a := 64) (by omega) (by decide) (by decide), ?_⟩
          refine ⟨by rw [sizeLine_eq, str_len_app]; show _ + 4 + _ ≤ _; omega, ?_⟩
          refine ⟨_, upd_same, by rw [List.length_map, sizeLine_eq]; have := (List.getElem?_eq_some_iff.mp hz).1; omega, ?_⟩
          refine ⟨acc ++ [_], by rw [List.length_append, h1]; rfl, ?_, by rw [upd_upd, List.map_append]; rfl⟩
          intro y hy
          rcases List.mem_append.mp hy with h | h
          · exact h2 y h
          · rw [List.mem_singleton.mp h]
            simp only [str_len_app]
            show _ + 4 + _ ≤ 60
            omega
        · rintro H3 ⟨acc, h1, h2, rfl⟩
          rw [List.length_map] at h1
          exact ⟨acc, D, _, rfl, by omega, h2, hD0, nDs, upd_same, by tm_at "heap", by tm_at "heap", by tm_at "sb"⟩
      · rintro σ' H3 ⟨nw, n, u4, rfl, e1, e2, e3, e4, e5, e6, e7, e8⟩
        tm_at "w"
        refine .inl ⟨f, _, rfl, SqL.of e6, fun p1 hp1 => ?_⟩
        rw [cutV_map]
        refine .inl ⟨_, _, upd_same, by tm_at "heap", ?_, fun p2 hp2 => ?_⟩
        · rw [List.length_map, List.length_map, sizeLine_eq]
          have := cutL_length rs none (some d1)
          omega
        have n1s : p1 ≠ s := (ne_of_none e7 hp1).symm
        have n2s : p2 ≠ s := (ne_of_none (upd_new e7 hp1) hp2).symm
        refine ⟨s, _, _, ys2, rfl, by tm_at "heap", hn6, by show _ + 3 * 3 < _; omega, by decide, by decide, fun d3 ys3 hd30 hd31 hy3 => ?_⟩
        have hf3 : (upd (upd (upd H3 p1 (.lst ((cutL rs none (some d1)).map V.str))) p2 (.lst ((cutL rs none (some d1)).map V.str ++ nw.map V.str))) s (.lst ys3)) f = some (.lst (rs.map V.str)) := by tm_at "heap"
        refine .inl ⟨f, _, rfl, SqL.of hf3, fun p3 hp3 => ?_⟩
        rw [cutV_map]
        have n3s : p3 ≠ s := by tm_at "ne"
        refine .inl ⟨_, _, by tm_at "heap", upd_same, ?_, fun p4 hp4 => ?_⟩
        · rw [List.length_append, List.length_map, List.length_map, List.length_map, sizeLine_eq]
          have := cutL_length rs none (some d1)
          have := cutL_length rs (some (d1 + d3)) none
          omega
        have n4s : p4 ≠ s := by tm_at "ne"
        have f1 : H p1 = none := e8.free n1s hp1
        have f2 : H p2 = none := e8.free n2s (upd_none hp2)
        have f3 : H p3 = none := e8.free n3s (upd_none (upd_none (upd_none hp3)))
        have f4 : H p4 = none := e8.free n4s (upd_none (upd_none (upd_none (upd_none hp4))))
        refine ⟨cutL rs none (some d1) ++ nw ++ cutL rs (some (d1 + d3)) none, ys3, p4, _, _, _, _, rfl, ?_, ?_, f4, n4s, by rw [upd_same, List.map_append, List.map_append], by tm_at "heap", hy3.mono (by show _ + 3 * 3 + 1 ≤ _; omega), by tm_at "sb"⟩
        · rw [List.length_append, List.length_append]
          have h5 : (cutL rs none (some d1)).length + (cutL rs (some (d1 + d3)) none).length ≤ rs.length := cut_two _ hd10 hd30
          omega
        · intro x hx
          rcases List.mem_append.mp hx with h | h
          · rcases List.mem_append.mp h with h | h
            · exact hrb x (cutL_mem h)
            · exact e2 x h
          · exact hrb x (cutL_mem h)
    · rintro σ H1 ⟨rs, ys, f, u1, u2, u3, u4, rfl, hrl, hrb, hf, nfs, g1, g2, g3, g4⟩
      exact q rs f ys H1 (by omega) hrb hf g1 g2 (g3.mono (by omega)) g4
end
end Toy

namespace Toy
open PySem L2
local macro_rules | `(tactic| tm_at "w") => `(tactic| (conv => whnf))
local macro_rules | `(tactic| tm_at "fr") => `(tactic| first | assumption | exact upd_none (by assumption) | exact upd_none (upd_none (by assumption)) | exact upd_none (upd_none (upd_none (by assumption))) | exact upd_none (upd_none (upd_none (upd_none (by assumption)))))
local macro_rules | `(tactic| tm_at "ne") => `(tactic| first | assumption | (apply Ne.symm; assumption) | exact upd_none_ne (by assumption) | exact (upd_none_ne (by assumption)).symm | exact upd_none_ne (upd_none (by assumption)) | exact (upd_none_ne (upd_none (by assumption))).symm | exact upd_none_ne (upd_none (upd_none (by assumption))) | exact (upd_none_ne (upd_none (upd_none (by assumption)))).symm)
local macro_rules | `(tactic| tm_at "heap") => `(tactic| first | assumption | exact upd_same | (refine upd_new ?_ (by tm_at "fr"); tm_at "heap") | (refine upd_oth (by tm_at "ne") ?_; tm_at "heap") | (refine SameB.get (by assumption) (by tm_at "ne") ?_; tm_at "heap") | (refine Same.get (by assumption) ?_; tm_at "heap"))
local macro_rules | `(tactic| tm_at "sq") => `(tactic| first | assumption | exact SqL.of (by tm_at "heap") | exact SqT.of (by tm_at "heap"))
local macro_rules | `(tactic| tm_at "ix") => `(tactic| (conv => whnf); first | refine ⟨_, _, .inl (by tm_at "sq"), rfl, ?_⟩ | refine ⟨_, _, .inr (by tm_at "sq"), rfl, ?_⟩)
local macro_rules | `(tactic| tm_at "sb") => `(tactic| first | assumption | exact SameB.refl | (refine SameB.ws ?_; tm_at "sb") | (refine SameB.wr ?_ (by tm_at "fr"); tm_at "sb") | (refine SameB.trans ?_ (by assumption); tm_at "sb"))
/-- a row of the table: for all begins in the second file -/
def rowOf (nw suf : List Str) : List Int := (List.range (nw.length + 1)).map fun c => ((Lcs.lcs suf (nw.drop c) : Nat) : Int)
theorem rowOf_get {nw suf : List Str} {c : Nat} (h : c ≤ nw.length) : (rowOf nw suf)[c]? = some ((Lcs.lcs suf (nw.drop c) : Nat) : Int) := by
  unfold rowOf
  rw [List.getElem?_map, List.getElem?_range (by omega)]; rfl
theorem rowOf_len (nw suf : List Str) : (rowOf nw suf).length = nw.length + 1 := by unfold rowOf; rw [List.length_map, List.length_range]
/-- the row as it grows, from the end on -/
def rowAcc (nw suf : List Str) (i : Nat) : List Int := (List.range (i + 1)).map fun t => ((Lcs.lcs suf (nw.drop (nw.length - t)) : Nat) : Int)
theorem rowAcc_succ (nw suf : List Str) (i : Nat) : rowAcc nw suf (i + 1) = rowAcc nw suf i ++ [((Lcs.lcs suf (nw.drop (nw.length - (i + 1))) : Nat) : Int)] := by
  unfold rowAcc
  rw [List.range_succ (n := i + 1), List.map_append]; rfl
theorem rowAcc_last (nw suf : List Str) (i : Nat) : ∃ l, (rowAcc nw suf i).map V.int = l ++ [V.int ((Lcs.lcs suf (nw.drop (nw.length - i)) : Nat) : Int)] := by
  unfold rowAcc
  rw [List.range_succ, List.map_append, List.map_append]
  exact ⟨_, rfl⟩
theorem rowAcc_rev (nw suf : List Str) : (rowAcc nw suf nw.length).reverse = rowOf nw suf := by
  apply List.ext_getElem?
  intro c
  by_cases h : c < nw.length + 1
  · rw [List.getElem?_reverse (by unfold rowAcc; rw [List.length_map, List.length_range]; exact h), rowOf_get (by omega)]
    unfold rowAcc
    rw [List.length_map, List.length_range, List.getElem?_map, List.getElem?_range (by omega)]
    show some ((Lcs.lcs suf (nw.drop (nw.length - (nw.length + 1 - 1 - c))) : Nat) : Int) = _
    rw [show nw.length - (nw.length + 1 - 1 - c) = c by omega]
  · rw [List.getElem?_eq_none (by rw [List.length_reverse]; unfold rowAcc; rw [List.length_map, List.length_range]; omega), List.getElem?_eq_none (by rw [rowOf_len]; omega)]
theorem rowOf_nil (nw : List Str) : rowOf nw [] = List.replicate (nw.length + 1) 0 := by
  unfold rowOf
  apply List.ext_getElem?
  intro c
  by_cases h : c < nw.length + 1
  · rw [List.getElem?_map, List.getElem?_range h, List.getElem?_replicate_of_lt h, Option.map_some, Lcs.lcs_nil_left]; rfl
  · rw [List.getElem?_eq_none (by rw [List.length_map, List.length_range]; omega), List.getElem?_eq_none (by rw [List.length_replicate]; omega)]
def spCommon (K : PySem.W.Frag) : Sp := fun vs H Q _ => ∃ (a b : Addr) (od nw : List Str), vs = [.ref a, .ref b] ∧ SqT K H a (od.map V.str) ∧ SqT K H b (nw.map V.str) ∧ od.length ≤ 10 ^ 6 ∧ nw.length ≤ 10 ^ 6 ∧
  ∀ (r : Addr) (as : List Addr) (H' : Hp), H r = none → Same H H' → H' r = some (.lst (as.map V.ref)) → as.length = od.length + 1 → (∀ (j : Nat) (a : Addr), as[j]? = some a → H' a = some (.lst ((rowOf nw (od.drop j)).map V.int))) → Q (.ref r) H'
section
variable {P : Program} {w : World} {K : PySem.W.Frag} {mg : Str → Option Value} {base : Heap} {ad : Ad}
theorem ok_common_lengths (T : Txt K mg ad) : FnOk P w K mg base CX0 1 ad.a_common_lengths ad.d_common_lengths ["old", "new"] (spCommon K) := by
  refine T.f_common_lengths.ok sc_common_lengths (fun vs H Q E h => ?_) (fun cdv A outer s H vs Q E hr h => ?_)
  · obtain ⟨a, b, od, nw, rfl, _⟩ := h; rfl
  · obtain ⟨a, b, od, nw, rfl, ha, hb, hl1, hl2, q⟩ := h
    refine ⟨_, pss_cons (ps_set (i := 2) sc_common_lengths.nd rfl (by first | exact Or.inl rfl | exact Or.inr rfl) (pe_lst (pa_cons (pe_op oc_mul (pe_lst (pa_cons pe_int pa_nil)) (pe_op (oc_add (K := K)) (pe_callB (cc_len (K := K)) (by rfl) T.n_len (by decide +kernel) (pa_cons (cv 1) pa_nil)) pe_int)) pa_nil)))
      (pss_cons (ps_for PassesOwn.never rfl (pic_rev (K := K) rfl T.n_reversed (cv 0)) (pg_name (i := 3) sc_common_lengths.nd rfl (by first | exact Or.inl rfl | exact Or.inr rfl))
        (pss_cons (ps_set (i := 4) sc_common_lengths.nd rfl (by first | exact Or.inl rfl | exact Or.inr rfl) (pe_ix (ic_seq (K := K)) (cv 2) (pe_un uc_neg pe_int) (fun _ _ => rfl)))
        (pss_cons (ps_set (i := 5) sc_common_lengths.nd rfl (by first | exact Or.inl rfl | exact Or.inr rfl) (pe_lst (pa_cons pe_int pa_nil)))
        (pss_cons (ps_for PassesOwn.never rfl (pi_range3 rfl T.n_range (pa_cons (pe_op oc_sub (pe_callB (cc_len (K := K)) (by rfl) T.n_len (by decide +kernel) (pa_cons (cv 1) pa_nil)) pe_int) (pa_cons (pe_un uc_neg pe_int) (pa_cons (pe_un uc_neg pe_int) pa_nil)))) (pg_name (i := 6) sc_common_lengths.nd rfl (by first | exact Or.inl rfl | exact Or.inr rfl))
          (pss_cons (ps_set (i := 7) sc_common_lengths.nd rfl (by first | exact Or.inl rfl | exact Or.inr rfl) (ce_if (ct_cmp (oc_eq (K := K) hr.units) (cv 3) (pe_ix (ic_seq (K := K)) (cv 1) (cv 6) (fun _ _ => rfl)) (nomark _)) (pe_op (oc_add (K := K)) (pe_ix (ic_seq (K := K)) (cv 4) (pe_op (oc_add (K := K)) (cv 6) pe_int) (fun _ _ => rfl)) pe_int) pe_int))
          (pss_one (ps_expr (pe_bm PySem.F.plainAttrs_list PySem.F.slot_list_append PySem.F.type_list_append (mc_append) (cv 5) (pa_cons (pe_callB (cc_max rfl) (by rfl) T.n_max (by decide +kernel) (pa_cons (cv 7) (pa_cons (pe_ix (ic_seq (K := K)) (cv 5) (pe_un uc_neg pe_int) (fun _ _ => rfl)) (pa_cons (pe_ix (ic_seq (K := K)) (cv 4) (cv 6) (fun _ _ => rfl)) pa_nil)))) pa_nil))))))
        (pss_cons (ps_expr (pe_bm0 PySem.F.plainAttrs_list PySem.F.slot_list_reverse PySem.F.type_list_reverse (mc_reverse) (cv 5)))
        (pss_one (ps_expr (pe_bm PySem.F.plainAttrs_list PySem.F.slot_list_append PySem.F.type_list_append (mc_append) (cv 2) (pa_cons (cv 5) pa_nil)))))))))
      (pss_cons (ps_expr (pe_bm0 PySem.F.plainAttrs_list PySem.F.slot_list_reverse PySem.F.type_list_reverse (mc_reverse) (cv 2)))
      (pss_one (ps_ret (cv 2))))), ?_⟩
    tm_at "w"
    refine ⟨by show 1 ≤ sizeLine; decide, fun z hz => ?_⟩
    have hb1 := (Same.new (o := .lst [.int 0]) hz).seqT hb
    refine ⟨_, .inr hb1, ?_⟩
    rw [List.length_map]
    refine ⟨z, _, _, rfl, rfl, upd_same, by omega, by omega, ?_, fun p0 hp0 => ?_⟩
    · rw [sizeLine_eq]; show 1 * _ ≤ _; omega
    refine ⟨by show 1 ≤ sizeLine; decide, fun r hr0 => ?_⟩
    have hrr : H r = none := by tm_at "fr"
    have hpp : H p0 = none := by tm_at "fr"
    rw [rep_flat, show ((nw.length : Int) + 1).toNat = nw.length + 1 by omega] at hr0
    have e0 : List.replicate (nw.length + 1) (V.int 0) = (rowOf nw []).map V.int := by rw [rowOf_nil, List.map_replicate]
    rw [rep_flat, show ((nw.length : Int) + 1).toNat = nw.length + 1 by omega, e0]
    rw [e0] at hr0
    have s0 : Same H (upd (upd (upd H z (.lst [.int 0])) p0 (.lst ((rowOf nw []).map V.int))) r (.lst [.ref p0])) := Same.wr (Same.wr (Same.new hz) hpp) hrr
    refine ⟨a, od.map V.str, rfl, .inr ⟨s0.seqT ha, ?_⟩⟩
    refine for_it (walk_revT (K := K) (a := a) (xs := od.map V.str)) (fun i σ H' => ∃ (as : List Addr) (u3 u4 u5 u6 u7 : Option V), σ = [some (.ref a), some (.ref b), some (.ref r), u3, u4, u5, u6, u7] ∧ as.length = i + 1 ∧ H' r = some (.lst (as.map V.ref)) ∧
      (∀ (j : Nat) (c : Addr), as[j]? = some c → c ≠ r ∧ H' c = some (.lst ((rowOf nw (od.drop (od.length - j))).map V.int))) ∧ Same H H') ?_ ?_ ?_ ?_
    · refine ⟨[p0], none, none, none, none, none, rfl, rfl, upd_same, ?_, s0⟩
      intro j c hc
      cases j with
      | zero =>
        have : c = p0 := by simpa using hc.symm
        subst this
        refine ⟨(upd_none_ne hr0).symm, ?_⟩
        rw [Nat.sub_zero, List.drop_length]
        tm_at "heap"
      | succ j => simp at hc
    · rintro i σ H1 _ ⟨as, u3, u4, u5, u6, u7, rfl, _, _, _, s1⟩
      exact s1.seqT ha
    · rintro i x σ H0 H1 hi ⟨as, u3, u4, u5, u6, u7, rfl, g1, g2, g3, g4⟩ ⟨rfl, hx⟩
      rw [List.length_map] at hi hx
      rw [List.getElem?_map] at hx
      obtain ⟨line, hline, rfl⟩ := Option.map_eq_some_iff.mp hx
      have hsuf : od.drop (od.length - (i + 1)) = line :: od.drop (od.length - i) := by
        have hlt := (List.getElem?_eq_some_iff.mp hline)
        obtain ⟨hlt, he⟩ := hlt
        rw [show od.length - (i + 1) = od.length - 1 - i by omega, List.drop_eq_getElem_cons hlt, he, show od.length - 1 - i + 1 = od.length - i by omega]
      obtain ⟨bl, hbl⟩ : ∃ bl, as[i]? = some bl := ⟨_, List.getElem?_eq_getElem (show i < as.length by omega)⟩
      obtain ⟨nbr, hbelow⟩ := g3 i bl hbl
      have has : as = as.take i ++ [bl] := by
        obtain ⟨hlt, he⟩ := List.getElem?_eq_some_iff.mp hbl
        conv => lhs; rw [← List.take_append_drop i as, List.drop_eq_getElem_cons hlt, he, List.drop_eq_nil_of_le (by omega)]
      generalize hsf : od.drop (od.length - i) = suf at hsuf hbelow
      tm_at "w"
      refine ⟨_, .ref bl, .inl (SqL.of g2), by rw [has, List.map_append]; exact atI_last _ _, ?_⟩
      refine ⟨by show 1 ≤ sizeLine; decide, fun w hw => ?_⟩
      have nwb : bl ≠ w := ne_of_none hbelow hw
      have nwr : r ≠ w := ne_of_none g2 hw
      have hw0 : H w = none := g4.free hw
      have hb2 : ∀ o, SqT K (upd H1 w o) b (nw.map V.str) := fun o => (g4.wr hw0).seqT hb
      refine ⟨_, .inr (hb2 _), ?_⟩
      rw [List.length_map]
      refine ⟨_, _, _, _, rfl, RgC.neg (by omega) (by omega) (by decide) (by decide), ?_⟩
      refine for_rangeC (n := ((nw.length : Int) - 1 - -1).toNat) (fun t σ H' => ∃ (u6 u7 : Option V), σ = [some (.ref a), some (.ref b), some (.ref r), some (.str line), some (.ref bl), some (.ref w), u6, u7] ∧ H' = upd H1 w (.lst ((rowAcc nw (line :: suf) t).map V.int))) ?_ ?_ ?_
      · refine ⟨_, _, rfl, ?_⟩
        have : rowAcc nw (line :: suf) 0 = [0] := by
          unfold rowAcc
          rw [List.range_succ, List.range_zero, List.nil_append, List.map_singleton, Nat.sub_zero, List.drop_length, Lcs.lcs_nil_right]; rfl
        rw [this]; rfl
      · rintro t σ H2 ht ⟨u6, u7, rfl, rfl⟩
        have ht' : t < nw.length := by omega
        generalize hcc : nw.length - 1 - t = c
        have ec : (nw.length : Int) - 1 + (t : Nat) * -1 = ((c : Nat) : Int) := by omega
        have hc1 : c < nw.length := by omega
        have hdrop := List.drop_eq_getElem_cons hc1
        have e1 : nw.length - t = c + 1 := by omega
        have e2 : nw.length - (t + 1) = c := by omega
        obtain ⟨l, hl⟩ := rowAcc_last nw (line :: suf) t
        rw [e1] at hl
        have key := Lcs.lcs_three line nw[c] suf (nw.drop (c + 1))
        rw [← hdrop] at key
        have hbl' : (upd H1 w (.lst ((rowAcc nw (line :: suf) t).map V.int))) bl = some (.lst ((rowOf nw suf).map V.int)) := upd_oth nwb hbelow
        tm_at "w"
        refine ⟨_, _, .inr (hb2 _), atI_map ec (List.getElem?_eq_getElem hc1), fun h => ?_, fun h => ?_⟩
        · have h := of_decide_eq_true h
          refine ⟨_, _, .inl (SqL.of hbl'), atI_map (j := c + 1) (by rw [ec]; rfl) (rowOf_get (by omega)), ?_⟩
          refine ⟨.inl ⟨rfl, _, SqL.of upd_same⟩, ?_⟩
          refine ⟨_, _, .inl (SqL.of upd_same), by rw [hl]; exact atI_last _ _, ?_⟩
          refine ⟨_, _, .inl (SqL.of hbl'), atI_map ec (rowOf_get (by omega)), ?_⟩
          refine ⟨_, upd_same, ?_, _, _, rfl, ?_⟩
          · rw [List.length_map, rowAcc, List.length_map, List.length_range, sizeLine_eq]; omega
          · rw [upd_upd, rowAcc_succ, List.map_append, e2]
            rw [if_pos h] at key
            congr 3
            show [V.int _] = [V.int _]
            congr 2
            omega
        · have h := of_decide_eq_false h
          refine ⟨.inl ⟨rfl, _, SqL.of upd_same⟩, ?_⟩
          refine ⟨_, _, .inl (SqL.of upd_same), by rw [hl]; exact atI_last _ _, ?_⟩
          refine ⟨_, _, .inl (SqL.of hbl'), atI_map ec (rowOf_get (by omega)), ?_⟩
          refine ⟨_, upd_same, ?_, _, _, rfl, ?_⟩
          · rw [List.length_map, rowAcc, List.length_map, List.length_range, sizeLine_eq]; omega
          · rw [upd_upd, rowAcc_succ, List.map_append, e2]
            rw [if_neg h] at key
            congr 3
            show [V.int _] = [V.int _]
            congr 2
            omega
      · rintro σ H2 ⟨u6, u7, rfl, rfl⟩
        rw [show ((nw.length : Int) - 1 - -1).toNat = nw.length by omega]
        refine ⟨.inl ⟨rfl, _, SqL.of upd_same⟩, _, upd_same, ?_⟩
        rw [upd_upd, ← List.map_reverse, rowAcc_rev]
        have hr1 : (upd H1 w (.lst ((rowOf nw (line :: suf)).map V.int))) r = some (.lst (as.map V.ref)) := upd_oth nwr g2
        refine ⟨.inl ⟨rfl, _, SqL.of hr1⟩, _, hr1, by rw [List.length_map, sizeLine_eq]; omega, ?_⟩
        refine ⟨as ++ [w], _, _, _, _, _, rfl, by rw [List.length_append, g1]; rfl, by rw [upd_same, List.map_append]; rfl, ?_, (g4.wr hw0).wr hrr⟩
        intro j c hc
        by_cases hj : j < as.length
        · rw [List.getElem?_append_left hj] at hc
          obtain ⟨n1, n2⟩ := g3 j c hc
          exact ⟨n1, upd_oth n1 (upd_new n2 hw)⟩
        · rw [List.getElem?_append_right (by omega)] at hc
          have hj2 : j = i + 1 := by
            have := (List.getElem?_eq_some_iff.mp hc).1
            simp at this
            omega
          subst hj2
          rw [g1, Nat.sub_self] at hc
          obtain rfl : w = c := by simpa using hc
          exact ⟨nwr.symm, by rw [hsuf]; exact upd_oth nwr.symm upd_same⟩
    · rintro σ H1 ⟨as, u3, u4, u5, u6, u7, rfl, g1, g2, g3, g4⟩
      rw [List.length_map] at g1
      refine ⟨.inl ⟨rfl, _, SqL.of g2⟩, _, g2, ?_⟩
      rw [← List.map_reverse]
      refine q r as.reverse _ hrr (g4.wr hrr) upd_same (by rw [List.length_reverse, g1]) (fun j c hc => ?_)
      have hj : j < as.length := by
        have := (List.getElem?_eq_some_iff.mp hc).1
        rw [List.length_reverse] at this
        exact this
      rw [List.getElem?_reverse hj] at hc
      obtain ⟨n1, n2⟩ := g3 _ c hc
      rw [show od.length - (as.length - 1 - j) = j by omega] at n2
      exact upd_oth n1 n2
end
end Toy

namespace Toy
open PySem L2
local macro_rules | `(tactic| tm_at "w") => `(tactic| (conv => whnf))
local macro_rules | `(tactic| tm_at "fr") => `(tactic| first | assumption | exact upd_none (by assumption) | exact upd_none (upd_none (by assumption)) | exact upd_none (upd_none (upd_none (by assumption))) | exact upd_none (upd_none (upd_none (upd_none (by assumption)))))
local macro_rules | `(tactic| tm_at "ne") => `(tactic| first | assumption | (apply Ne.symm; assumption) | exact upd_none_ne (by assumption) | exact (upd_none_ne (by assumption)).symm | exact upd_none_ne (upd_none (by assumption)) | exact (upd_none_ne (upd_none (by assumption))).symm | exact upd_none_ne (upd_none (upd_none (by assumption))) | exact (upd_none_ne (upd_none (upd_none (by assumption)))).symm)
local macro_rules | `(tactic| tm_at "heap") => `(tactic| first | assumption | exact upd_same | (refine upd_new ?_ (by tm_at "fr"); tm_at "heap") | (refine upd_oth (by tm_at "ne") ?_; tm_at "heap") | (refine SameB.get (by assumption) (by tm_at "ne") ?_; tm_at "heap") | (refine Same.get (by assumption) ?_; tm_at "heap"))
local macro_rules | `(tactic| tm_at "sq") => `(tactic| first | assumption | exact SqL.of (by tm_at "heap") | exact SqT.of (by tm_at "heap"))
local macro_rules | `(tactic| tm_at "ix") => `(tactic| (conv => whnf); first | refine ⟨_, _, .inl (by tm_at "sq"), rfl, ?_⟩ | refine ⟨_, _, .inr (by tm_at "sq"), rfl, ?_⟩)
local macro_rules | `(tactic| tm_at "sb") => `(tactic| first | assumption | exact SameB.refl | (refine SameB.ws ?_; tm_at "sb") | (refine SameB.wr ?_ (by tm_at "fr"); tm_at "sb") | (refine SameB.trans ?_ (by assumption); tm_at "sb"))
def spLeast (K : PySem.W.Frag) : Sp := fun vs H Q _ => ∃ (a b : Addr) (od nw : List Str), vs = [.ref a, .ref b] ∧ SqT K H a (od.map V.str) ∧ SqT K H b (nw.map V.str) ∧ od.length ≤ 10 ^ 6 ∧ nw.length ≤ 10 ^ 6 ∧
  ∀ (H' : Hp), Same H H' → Q (.int (Lcs.dist od nw)) H'
section
variable {P : Program} {w : World} {K : PySem.W.Frag} {mg : Str → Option Value} {base : Heap} {ad : Ad}
theorem ok_least_changes (T : Txt K mg ad) : FnOk P w K mg base CX0 2 ad.a_least_changes ad.d_least_changes ["old", "new"] (spLeast K) := by
  refine T.f_least_changes.ok sc_least_changes (fun vs H Q E h => ?_) (fun cdv A outer s H vs Q E hr h => ?_)
  · obtain ⟨a, b, od, nw, rfl, _⟩ := h; rfl
  · obtain ⟨a, b, od, nw, rfl, ha, hb, hl1, hl2, q⟩ := h
    refine ⟨_, pss_one (ps_ret (pe_op oc_sub (pe_op (oc_add (K := K)) (pe_callB (cc_len (K := K)) (by rfl) T.n_len (by decide +kernel) (pa_cons (cv 0) pa_nil)) (pe_callB (cc_len (K := K)) (by rfl) T.n_len (by decide +kernel) (pa_cons (cv 1) pa_nil))) (pe_op oc_mul pe_int (pe_ix (ic_seq (K := K)) (pe_ix (ic_seq (K := K)) (pe_call (ok_common_lengths T) (hr.mono (by decide)) rfl T.m_common_lengths T.k_common_lengths T.b_common_lengths .nil pass0 (pa_cons (cv 0) (pa_cons (cv 1) pa_nil))) pe_int (fun _ _ => rfl)) pe_int (fun _ _ => rfl))))), ?_⟩
    tm_at "w"
    refine ⟨_, .inr ha, _, .inr hb, ?_⟩
    refine ⟨a, b, od, nw, rfl, ha, hb, hl1, hl2, fun r as H1 h1 h2 h3 h4 h5 => ?_⟩
    obtain ⟨c, hc⟩ : ∃ c, as[0]? = some c := ⟨_, List.getElem?_eq_getElem (show 0 < as.length by omega)⟩
    have h6 := h5 0 c hc
    refine ⟨_, _, .inl (SqL.of h3), atI_map (j := 0) rfl hc, ?_⟩
    refine ⟨_, _, .inl (SqL.of h6), atI_map (j := 0) rfl (rowOf_get (Nat.zero_le _)), ?_⟩
    refine ⟨.inl (by decide), ?_⟩
    have := q H1 h2
    unfold Lcs.dist at this
    rw [List.length_map, List.length_map]
    exact this
/-- whether lines stand in other lines -/
def spWithin (K : PySem.W.Frag) : Sp := fun vs H Q _ => ∃ (a b : Addr) (s nw : List Str), vs = [.ref a, .ref b] ∧ SqL K H a (s.map V.str) ∧ SqL K H b (nw.map V.str) ∧ Q (.bl (decide (Lcs.met s nw 0 = s.length))) H
theorem ok_law_is_within (T : Txt K mg ad) : FnOk P w K mg base CX0 1 ad.a_law_is_within ad.d_law_is_within ["_law_some", "_law_lines"] (spWithin K) := by
  refine T.f_law_is_within.ok sc_law_is_within (fun vs H Q E h => ?_) (fun cdv A outer s H vs Q E hr h => ?_)
  · obtain ⟨a, b, od, nw, rfl, _⟩ := h; rfl
  · obtain ⟨a, b, sm, nw, rfl, ha, hb, q⟩ := h
    refine ⟨_, pss_cons (ps_set (i := 2) sc_law_is_within.nd rfl (by first | exact Or.inl rfl | exact Or.inr rfl) pe_int)
      (pss_cons (ps_for PassesOwn.never rfl (pic_seq (K := K) (cv 1)) (pg_name (i := 3) sc_law_is_within.nd rfl (by first | exact Or.inl rfl | exact Or.inr rfl))
        (pss_one (cs_if (PW.pt (cw_and (ct_cmp oc_lt (cv 2) (pe_callB (cc_len (K := K)) (by rfl) T.n_len (by decide +kernel) (pa_cons (cv 0) pa_nil)) (nomark _)) (pw_and1 (ct_cmp (oc_eq (K := K) hr.units) (pe_ix (ic_seq (K := K)) (cv 0) (cv 2) (fun _ _ => rfl)) (cv 3) (nomark _)))))
          (pss_one (ps_set (i := 2) sc_law_is_within.nd rfl (by first | exact Or.inl rfl | exact Or.inr rfl) (pe_op (oc_add (K := K)) (cv 2) pe_int)))
          pss_nil)))
      (pss_one (ps_ret (pe_cmpR (oc_eq (K := K) hr.units) (cv 2) (pe_callB (cc_len (K := K)) (by rfl) T.n_len (by decide +kernel) (pa_cons (cv 0) pa_nil)) (nomark _))))), ?_⟩
    refine .inl ⟨b, rfl, ⟨_, hb⟩, ?_⟩
    refine for_list (K := K) (a := b) (xs := nw.map V.str) (fun i σ H' => ∃ (k : Nat) (u : Option V), σ = [some (.ref a), some (.ref b), some (.int k), u] ∧ H' = H ∧ k ≤ sm.length ∧ Lcs.met sm (nw.drop i) k = Lcs.met sm nw 0) ?_ ?_ ?_ ?_
    · exact ⟨0, _, rfl, rfl, Nat.zero_le _, rfl⟩
    · rintro i σ H' _ ⟨k, u, rfl, rfl, _⟩; exact hb
    · rintro i x σ H' hx ⟨k, u, rfl, rfl, hk, hm⟩
      rw [List.getElem?_map] at hx
      obtain ⟨line, hline, rfl⟩ := Option.map_eq_some_iff.mp hx
      obtain ⟨hlt, he⟩ := List.getElem?_eq_some_iff.mp hline
      rw [List.drop_eq_getElem_cons hlt, he, Lcs.met] at hm
      tm_at "w"
      refine ⟨_, .inl ha, fun h => ?_, fun h => ?_⟩
      · have h := of_decide_eq_true h
        rw [List.length_map] at h
        have hk2 : k < sm.length := by omega
        refine ⟨_, _, .inl ha, atI_map rfl (List.getElem?_eq_getElem hk2), fun h2 => ?_, fun h2 => ?_⟩
        · have h2 := of_decide_eq_true h2
          refine ⟨k + 1, _, rfl, rfl, by omega, ?_⟩
          rw [List.getElem?_eq_getElem hk2, h2, if_pos rfl] at hm
          exact hm
        · have h2 := of_decide_eq_false h2
          refine ⟨k, _, rfl, rfl, by omega, ?_⟩
          rw [List.getElem?_eq_getElem hk2, if_neg (fun z => h2 (Option.some.inj z))] at hm
          exact hm
      · have h := of_decide_eq_false h
        rw [List.length_map] at h
        refine ⟨fun h2 => (nomatch h2), fun _ => ⟨k, _, rfl, rfl, by omega, ?_⟩⟩
        rw [List.getElem?_eq_none (by omega), if_neg (fun z => nomatch z)] at hm
        exact hm
    · rintro σ H' ⟨k, u, rfl, rfl, hk, hm⟩
      rw [List.length_map, List.drop_length, Lcs.met] at hm
      refine ⟨_, .inl ha, ?_⟩
      rw [List.length_map, hm]
      have e : decide ((Lcs.met sm nw 0 : Int) = (sm.length : Int)) = decide (Lcs.met sm nw 0 = sm.length) := by
        by_cases h : Lcs.met sm nw 0 = sm.length
        · rw [decide_eq_true h, decide_eq_true (by omega)]
        · rw [decide_eq_false h, decide_eq_false (by omega)]
      show Q (.bl (decide ((Lcs.met sm nw 0 : Int) = (sm.length : Int)))) _
      rw [e]
      exact q
end
end Toy

namespace Toy
open PySem L2
local macro_rules | `(tactic| tm_at "w") => `(tactic| (conv => whnf))
local macro_rules | `(tactic| tm_at "fr") => `(tactic| first | assumption | exact upd_none (by assumption) | exact upd_none (upd_none (by assumption)) | exact upd_none (upd_none (upd_none (by assumption))) | exact upd_none (upd_none (upd_none (upd_none (by assumption)))))
local macro_rules | `(tactic| tm_at "ne") => `(tactic| first | assumption | (apply Ne.symm; assumption) | exact upd_none_ne (by assumption) | exact (upd_none_ne (by assumption)).symm | exact upd_none_ne (upd_none (by assumption)) | exact (upd_none_ne (upd_none (by assumption))).symm | exact upd_none_ne (upd_none (upd_none (by assumption))) | exact (upd_none_ne (upd_none (upd_none (by assumption)))).symm)
local macro_rules | `(tactic| tm_at "heap") => `(tactic| first | assumption | exact upd_same | (refine upd_new ?_ (by tm_at "fr"); tm_at "heap") | (refine upd_oth (by tm_at "ne") ?_; tm_at "heap") | (refine SameB.get (by assumption) (by tm_at "ne") ?_; tm_at "heap") | (refine Same.get (by assumption) ?_; tm_at "heap"))
local macro_rules | `(tactic| tm_at "sq") => `(tactic| first | assumption | exact SqL.of (by tm_at "heap") | exact SqT.of (by tm_at "heap"))
local macro_rules | `(tactic| tm_at "ix") => `(tactic| (conv => whnf); first | refine ⟨_, _, .inl (by tm_at "sq"), rfl, ?_⟩ | refine ⟨_, _, .inr (by tm_at "sq"), rfl, ?_⟩)
local macro_rules | `(tactic| tm_at "sb") => `(tactic| first | assumption | exact SameB.refl | (refine SameB.ws ?_; tm_at "sb") | (refine SameB.wr ?_ (by tm_at "fr"); tm_at "sb") | (refine SameB.trans ?_ (by assumption); tm_at "sb"))
def spTried (K : PySem.W.Frag) : Sp := fun vs H Q _ => ∃ (a b : Addr) (od nw : List Str), vs = [.ref a, .ref b] ∧ SqL K H a (od.map V.str) ∧ SqL K H b (nw.map V.str) ∧ od.length ≤ 20 ∧ nw.length ≤ 10 ^ 6 ∧
  ∀ (H' : Hp), Same H H' → Q (.int (Lcs.dist od nw)) H'
section
variable {P : Program} {w : World} {K : PySem.W.Frag} {mg : Str → Option Value} {base : Heap} {ad : Ad}
theorem ok_law_tried (T : Txt K mg ad) : FnOk P w K mg base CX0 2 ad.a_law_tried ad.d_law_tried ["_law_old", "_law_new"] (spTried K) := by
  refine T.f_law_tried.ok sc_law_tried (fun vs H Q E h => ?_) (fun cdv A outer s H vs Q E hr h => ?_)
  · obtain ⟨a, b, od, nw, rfl, _⟩ := h; rfl
  · obtain ⟨a, b, od, nw, rfl, ha, hb, hl1, hl2, q⟩ := h
    refine ⟨_, pss_cons (ps_set (i := 2) sc_law_tried.nd rfl (by first | exact Or.inl rfl | exact Or.inr rfl) pe_int)
      (pss_cons (ps_set (i := 3) sc_law_tried.nd rfl (by first | exact Or.inl rfl | exact Or.inr rfl) (pe_lst (pa_cons (pe_lst pa_nil) pa_nil)))
      (pss_cons (ps_for PassesOwn.never rfl (pic_seq (K := K) (cv 0)) (pg_name (i := 4) sc_law_tried.nd rfl (by first | exact Or.inl rfl | exact Or.inr rfl))
        (pss_one (ps_set (i := 3) sc_law_tried.nd rfl (by first | exact Or.inl rfl | exact Or.inr rfl) (pe_op (oc_add (K := K)) (cv 3) (pe_lc (own := [("_law_some", 5)]) (g := gName 5) (by rfl) sc_law_tried.nd  (pic_seq (K := K) (cv 3)) (blkOk_by (own := [("_law_some", 5)]) (N := N_law_tried) (sc := defScope s_law_tried) (by decide +kernel)) (fun _ _ _ _ _ => pg_name (i := 5) sc_law_tried.nd rfl (by first | exact Or.inl rfl | exact Or.inr rfl)) (fun _ _ _ _ _ => pts_nil) (fun _ _ _ _ _ => pe_op (oc_add (K := K)) (cv 5) (pe_lst (pa_cons (cv 4) pa_nil))))))))
      (pss_cons (ps_for PassesOwn.never rfl (pic_seq (K := K) (cv 3)) (pg_name (i := 5) sc_law_tried.nd rfl (by first | exact Or.inl rfl | exact Or.inr rfl))
        (pss_one (cs_if (PW.pt (cw_and (ct_cmp oc_gt (pe_callB (cc_len (K := K)) (by rfl) T.n_len (by decide +kernel) (pa_cons (cv 5) pa_nil)) (cv 2) (nomark _)) (pw_and1 (ct_val (pe_call (ok_law_is_within T) (hr.mono (by decide)) rfl T.m_law_is_within T.k_law_is_within T.b_law_is_within .nil pass0 (pa_cons (cv 5) (pa_cons (cv 1) pa_nil)))))))
          (pss_one (ps_set (i := 2) sc_law_tried.nd rfl (by first | exact Or.inl rfl | exact Or.inr rfl) (pe_callB (cc_len (K := K)) (by rfl) T.n_len (by decide +kernel) (pa_cons (cv 5) pa_nil))))
          pss_nil)))
      (pss_one (ps_ret (pe_op oc_sub (pe_op (oc_add (K := K)) (pe_callB (cc_len (K := K)) (by rfl) T.n_len (by decide +kernel) (pa_cons (cv 0) pa_nil)) (pe_callB (cc_len (K := K)) (by rfl) T.n_len (by decide +kernel) (pa_cons (cv 1) pa_nil))) (pe_op oc_mul pe_int (cv 2)))))))), ?_⟩
    tm_at "w"
    refine ⟨Nat.zero_le _, fun e he => ⟨by show 1 ≤ sizeLine; decide, fun c hc => ?_⟩⟩
    have hc0 : H c = none := by tm_at "fr"
    have s0 : Same H (upd (upd H e (.lst [])) c (.lst [.ref e])) := (Same.new he).wr hc0
    refine .inl ⟨a, rfl, ⟨_, s0.seq ha⟩, ?_⟩
    refine for_list (K := K) (a := a) (xs := od.map V.str) (fun i σ H' => ∃ (c : Addr) (as : List Addr) (cs : List (List Str)) (u4 u5 : Option V), σ = [some (.ref a), some (.ref b), some (.int 0), some (.ref c), u4, u5] ∧ Same H H' ∧ H' c = some (.lst (as.map V.ref)) ∧ LLs H' as cs ∧
      cs.length = 2 ^ i ∧ (∀ s ∈ cs, s.length ≤ i) ∧ Lcs.choices (od.drop i) cs = Lcs.choices od [[]]) ?_ ?_ ?_ ?_
    · exact ⟨c, [e], [[]], none, none, rfl, s0, upd_same, .cons (by tm_at "heap") .nil, rfl, fun s hs => by rw [List.mem_singleton.mp hs]; exact Nat.le_refl _, rfl⟩
    · rintro i σ H' _ ⟨c, as, cs, u4, u5, rfl, s1, _⟩; exact s1.seq ha
    · rintro i x σ H1 hx ⟨c, as, cs, u4, u5, rfl, s1, g1, g2, g3, g5, g4⟩
      rw [List.getElem?_map] at hx
      obtain ⟨line, hline, rfl⟩ := Option.map_eq_some_iff.mp hx
      obtain ⟨hlt, hle⟩ := List.getElem?_eq_some_iff.mp hline
      rw [List.drop_eq_getElem_cons hlt, hle, Lcs.choices] at g4
      have hpow : (2 : Nat) ^ i ≤ 2 ^ 20 := Nat.pow_le_pow_right (by decide) (by omega)
      have hpow' : (2 : Nat) ^ i ≤ 1048576 := hpow
      have hlen := Paired.length g2
      tm_at "w"
      refine .inl ⟨c, rfl, ⟨_, SqL.of g1⟩, fun D hD => ?_⟩
      have hDc : c ≠ D := ne_of_none g1 hD
      refine lc_list (K := K) (a := c) (xs := as.map V.ref) (fun j H' => ∃ bs : List Addr, H' D = some (.lst (bs.map V.ref)) ∧ Paired (fun b s => b ≠ D ∧ H' b = some (.lst ((s ++ [line]).map V.str))) bs (cs.take j) ∧ Same H1 H') ?_ ?_ ?_ ?_
      · exact ⟨[], upd_same, .nil, Same.new hD⟩
      · rintro j H2 _ ⟨bs, h1, h2, h3⟩; exact SqL.of (h3 _ _ g1)
      · rintro j x H2 hx ⟨bs, h1, h2, h3⟩
        rw [List.getElem?_map] at hx
        obtain ⟨z, hz, rfl⟩ := Option.map_eq_some_iff.mp hx
        obtain ⟨sm, hsm, hz2⟩ := prd_get g2 hz
        have hj := (List.getElem?_eq_some_iff.mp hz).1
        refine ⟨rfl, ?_⟩
        tm_at "w"
        refine ⟨by show 1 ≤ sizeLine; decide, fun t ht => ?_⟩
        refine .inl ⟨_, _, upd_new (h3 _ _ hz2) ht, upd_same, ?_, fun p hp => ?_⟩
        · have := g5 sm (List.mem_of_getElem? hsm)
          rw [List.length_map, sizeLine_eq]
          show _ + 1 ≤ _
          omega
        have hDt : D ≠ t := ne_of_none h1 ht
        have hDp : D ≠ p := ne_of_none (upd_new h1 ht) hp
        have hbl := Paired.length h2
        have ht1 : H1 t = none := h3.free ht
        have hp1 : H1 p = none := h3.free (upd_none hp)
        have hD1 : H1 D = none := hD
        refine ⟨_, by tm_at "heap", ?_, bs ++ [p], by rw [upd_same, List.map_append]; rfl, ?_, ?_⟩
        · rw [List.length_map, hbl, List.length_take, sizeLine_eq]
          omega
        · rw [List.take_succ, hsm]
          refine prd_app (prd_mono (fun b s q => ⟨q.1, upd_oth q.1 (upd_new (upd_new q.2 ht) hp)⟩) h2) (.cons ⟨hDp.symm, ?_⟩ .nil)
          rw [upd_ne hDp.symm, upd_same, List.map_append]; rfl
        · exact ((h3.wr ht1).wr hp1).wr hD1
      · rintro H2 ⟨bs, h1, h2, h3⟩
        have e1 : cs.take (as.map V.ref).length = cs := List.take_of_length_le (by rw [List.length_map, hlen]; exact Nat.le_refl _)
        rw [e1] at h2
        have hbl := Paired.length h2
        refine .inl ⟨_, _, h3 _ _ g1, h1, ?_, fun c2 hc2 => ?_⟩
        · rw [List.length_map, List.length_map, hlen, hbl, g3, sizeLine_eq]
          omega
        have s2 : Same H H2 := s1.trans h3
        have hc20 : H c2 = none := s2.free hc2
        refine ⟨c2, as ++ bs, cs ++ cs.map (· ++ [line]), _, _, rfl, s2.wr hc20, by rw [upd_same, List.map_append], ?_, ?_, ?_, g4⟩
        · refine prd_app (prd_mono (fun b s q => upd_new (h3 _ _ q) hc2) g2) (prd_map (F := fun b s => b ≠ D ∧ H2 b = some (.lst ((s ++ [line]).map V.str))) (G := fun b c => upd H2 c2 (.lst (as.map V.ref ++ bs.map V.ref)) b = some (.lst (c.map V.str))) (fun x => x ++ [line]) (fun b s q => upd_new q.2 hc2) h2)
        · rw [List.length_append, List.length_map, g3, Nat.pow_succ]; omega
        · intro s hs
          rcases List.mem_append.mp hs with h | h
          · have := g5 s h; omega
          · obtain ⟨s', h', rfl⟩ := List.mem_map.mp h
            have := g5 s' h'
            rw [List.length_append]
            show _ + 1 ≤ _
            omega
    · rintro σ H1 ⟨c, as, cs, u4, u5, rfl, s1, g1, g2, g3, g5, g4⟩
      rw [List.length_map, List.drop_length, Lcs.choices] at g4
      have hlen := Paired.length g2
      refine .inl ⟨c, rfl, ⟨_, SqL.of g1⟩, ?_⟩
      refine for_list (K := K) (a := c) (xs := as.map V.ref) (fun j σ H' => ∃ (k : Nat) (u4 u5 : Option V), σ = [some (.ref a), some (.ref b), some (.int k), some (.ref c), u4, u5] ∧ H' = H1 ∧ Lcs.best nw (cs.drop j) k = Lcs.best nw cs 0) ?_ ?_ ?_ ?_
      · exact ⟨0, _, _, rfl, rfl, rfl⟩
      · rintro j σ H' _ ⟨k, u4, u5, rfl, rfl, _⟩; exact SqL.of g1
      · rintro j x σ H' hx ⟨k, u4, u5, rfl, rfl, hm⟩
        rw [List.getElem?_map] at hx
        obtain ⟨z, hz, rfl⟩ := Option.map_eq_some_iff.mp hx
        obtain ⟨sm, hsm, hz2⟩ := prd_get g2 hz
        obtain ⟨hlt, he⟩ := List.getElem?_eq_some_iff.mp hsm
        rw [List.drop_eq_getElem_cons hlt, he, Lcs.best] at hm
        tm_at "w"
        refine ⟨_, .inl (SqL.of hz2), fun h => ?_, fun h => ?_⟩
        · have h := of_decide_eq_true h
          rw [List.length_map] at h
          refine ⟨z, b, sm, nw, rfl, SqL.of hz2, s1.seq hb, fun h2 => ?_, fun h2 => ?_⟩
          · have h2 := of_decide_eq_true h2
            refine ⟨_, .inl (SqL.of hz2), sm.length, _, _, by rw [List.length_map]; rfl, rfl, ?_⟩
            rw [if_pos ⟨by omega, h2⟩] at hm
            exact hm
          · have h2 := of_decide_eq_false h2
            refine ⟨k, _, _, rfl, rfl, ?_⟩
            rw [if_neg (fun z => h2 z.2)] at hm
            exact hm
        · have h := of_decide_eq_false h
          rw [List.length_map] at h
          refine ⟨fun h2 => (nomatch h2), fun _ => ⟨k, _, _, rfl, rfl, ?_⟩⟩
          rw [if_neg (fun z => h (by omega))] at hm
          exact hm
      · rintro σ H' ⟨k, u4, u5, rfl, rfl, hm⟩
        rw [List.length_map, hlen, List.drop_length, Lcs.best, g4, Lcs.best_lcs] at hm
        refine ⟨_, .inl (s1.seq ha), _, .inl (s1.seq hb), .inl (by decide), ?_⟩
        have := q _ s1
        unfold Lcs.dist at this
        rw [List.length_map, List.length_map, hm]
        exact this
end
end Toy

namespace Toy
open PySem L2
local macro_rules | `(tactic| tm_at "w") => `(tactic| (conv => whnf))
local macro_rules | `(tactic| tm_at "fr") => `(tactic| first | assumption | exact upd_none (by assumption) | exact upd_none (upd_none (by assumption)) | exact upd_none (upd_none (upd_none (by assumption))) | exact upd_none (upd_none (upd_none (upd_none (by assumption)))))
local macro_rules | `(tactic| tm_at "ne") => `(tactic| first | assumption | (apply Ne.symm; assumption) | exact upd_none_ne (by assumption) | exact (upd_none_ne (by assumption)).symm | exact upd_none_ne (upd_none (by assumption)) | exact (upd_none_ne (upd_none (by assumption))).symm | exact upd_none_ne (upd_none (upd_none (by assumption))) | exact (upd_none_ne (upd_none (upd_none (by assumption)))).symm)
local macro_rules | `(tactic| tm_at "heap") => `(tactic| first | assumption | exact upd_same | (refine upd_new ?_ (by tm_at "fr"); tm_at "heap") | (refine upd_oth (by tm_at "ne") ?_; tm_at "heap") | (refine SameB.get (by assumption) (by tm_at "ne") ?_; tm_at "heap") | (refine Same.get (by assumption) ?_; tm_at "heap"))
local macro_rules | `(tactic| tm_at "sq") => `(tactic| first | assumption | exact SqL.of (by tm_at "heap") | exact SqT.of (by tm_at "heap"))
local macro_rules | `(tactic| tm_at "ix") => `(tactic| (conv => whnf); first | refine ⟨_, _, .inl (by tm_at "sq"), rfl, ?_⟩ | refine ⟨_, _, .inr (by tm_at "sq"), rfl, ?_⟩)
local macro_rules | `(tactic| tm_at "sb") => `(tactic| first | assumption | exact SameB.refl | (refine SameB.ws ?_; tm_at "sb") | (refine SameB.wr ?_ (by tm_at "fr"); tm_at "sb") | (refine SameB.trans ?_ (by assumption); tm_at "sb"))
/-- a row whose places from k on are filled -/
def rowP (nw suf : List Str) (k : Nat) : List Int := (List.range (nw.length + 1)).map fun c => if k ≤ c then ((Lcs.lcs suf (nw.drop c) : Nat) : Int) else 0
theorem rowP_len (nw suf : List Str) (k : Nat) : (rowP nw suf k).length = nw.length + 1 := by unfold rowP; rw [List.length_map, List.length_range]
theorem rowP_get {nw suf : List Str} {k c : Nat} (h : c ≤ nw.length) : (rowP nw suf k)[c]? = some (if k ≤ c then ((Lcs.lcs suf (nw.drop c) : Nat) : Int) else 0) := by
  unfold rowP
  rw [List.getElem?_map, List.getElem?_range (by omega)]; rfl
theorem rowP_zero (nw suf : List Str) : rowP nw suf 0 = rowOf nw suf := by
  unfold rowP rowOf
  congr 1
theorem rowP_top (nw suf : List Str) : rowP nw suf nw.length = List.replicate (nw.length + 1) 0 := by
  apply List.ext_getElem?
  intro c
  by_cases h : c < nw.length + 1
  · rw [rowP_get (by omega), List.getElem?_replicate_of_lt h]
    by_cases g : nw.length ≤ c
    · rw [if_pos g, show c = nw.length by omega, List.drop_length, Lcs.lcs_nil_right]; rfl
    · rw [if_neg g]
  · rw [List.getElem?_eq_none (by rw [rowP_len]; omega), List.getElem?_eq_none (by rw [List.length_replicate]; omega)]
theorem rowP_nil (nw : List Str) (k : Nat) : rowP nw [] k = List.replicate (nw.length + 1) 0 := by
  apply List.ext_getElem?
  intro c
  by_cases h : c < nw.length + 1
  · rw [rowP_get (by omega), List.getElem?_replicate_of_lt h, Lcs.lcs_nil_left]
    split <;> rfl
  · rw [List.getElem?_eq_none (by rw [rowP_len]; omega), List.getElem?_eq_none (by rw [List.length_replicate]; omega)]
theorem rowP_set {nw suf : List Str} {c : Nat} (h : c < nw.length) : (rowP nw suf (c + 1)).set c ((Lcs.lcs suf (nw.drop c) : Nat) : Int) = rowP nw suf c := by
  apply List.ext_getElem?
  intro d
  rw [List.getElem?_set, rowP_len]
  by_cases e : c = d
  · subst e
    rw [if_pos rfl, if_pos (by omega), rowP_get (by omega), if_pos (Nat.le_refl _)]
  · rw [if_neg e]
    by_cases g : d ≤ nw.length
    · rw [rowP_get g, rowP_get g]
      congr 1
      by_cases g2 : c + 1 ≤ d
      · rw [if_pos g2, if_pos (by omega)]
      · rw [if_neg g2, if_neg (by omega)]
    · rw [List.getElem?_eq_none (by rw [rowP_len]; omega), List.getElem?_eq_none (by rw [rowP_len]; omega)]
def spLeft (K : PySem.W.Frag) : Sp := fun vs H Q _ => ∃ (a b : Addr) (od nw : List Str), vs = [.ref a, .ref b] ∧ SqL K H a (od.map V.str) ∧ SqL K H b (nw.map V.str) ∧ od.length ≤ 10 ^ 6 ∧ nw.length ≤ 10 ^ 6 ∧
  ∀ (r : Addr) (as : List Addr) (H' : Hp), Same H H' → H' r = some (.lst (as.map V.ref)) → as.length = od.length + 1 → (∀ (j : Nat) (a : Addr), as[j]? = some a → H' a = some (.lst ((rowOf nw (od.drop j)).map V.int))) → Q (.ref r) H'
section
variable {P : Program} {w : World} {K : PySem.W.Frag} {mg : Str → Option Value} {base : Heap} {ad : Ad}
theorem ok_law_left_common (T : Txt K mg ad) : FnOk P w K mg base CX0 1 ad.a_law_left_common ad.d_law_left_common ["_law_old", "_law_new"] (spLeft K) := by
  refine T.f_law_left_common.ok sc_law_left_common (fun vs H Q E h => ?_) (fun cdv A outer s H vs Q E hr h => ?_)
  · obtain ⟨a, b, od, nw, rfl, _⟩ := h; rfl
  · obtain ⟨a, b, od, nw, rfl, ha, hb, hl1, hl2, q⟩ := h
    refine ⟨_, pss_cons (ps_setLc (i := 2) (own := [("_law_row", 3)]) (g := gName 3) (by rfl) sc_law_left_common.nd rfl rfl (sw_true rfl rfl rfl (by decide +kernel)) (pi_range1 rfl T.n_range (pa_cons (pe_op (oc_add (K := K)) (pe_callB (cc_len (K := K)) (by rfl) T.n_len (by decide +kernel) (pa_cons (cv 0) pa_nil)) pe_int) pa_nil)) (blkOk_by (own := [("_law_row", 3)]) (N := N_law_left_common) (sc := defScope s_law_left_common) (by decide +kernel)) (fun _ _ _ _ _ => pg_name (i := 3) sc_law_left_common.nd rfl (by first | exact Or.inl rfl | exact Or.inr rfl)) (fun _ _ _ _ _ => pts_nil) (fun _ _ _ _ _ => pe_op oc_mul (pe_lst (pa_cons pe_int pa_nil)) (pe_op (oc_add (K := K)) (pe_callB (cc_len (K := K)) (by rfl) T.n_len (by decide +kernel) (pa_cons (cv 1) pa_nil)) pe_int)))
      (pss_cons (ps_for PassesOwn.never rfl (pi_range3 rfl T.n_range (pa_cons (pe_op oc_sub (pe_callB (cc_len (K := K)) (by rfl) T.n_len (by decide +kernel) (pa_cons (cv 0) pa_nil)) pe_int) (pa_cons (pe_un uc_neg pe_int) (pa_cons (pe_un uc_neg pe_int) pa_nil)))) (pg_name (i := 4) sc_law_left_common.nd rfl (by first | exact Or.inl rfl | exact Or.inr rfl))
        (pss_one (ps_for PassesOwn.never rfl (pi_range3 rfl T.n_range (pa_cons (pe_op oc_sub (pe_callB (cc_len (K := K)) (by rfl) T.n_len (by decide +kernel) (pa_cons (cv 1) pa_nil)) pe_int) (pa_cons (pe_un uc_neg pe_int) (pa_cons (pe_un uc_neg pe_int) pa_nil)))) (pg_name (i := 5) sc_law_left_common.nd rfl (by first | exact Or.inl rfl | exact Or.inr rfl))
          (pss_one (cs_if (ct_cmp (oc_eq (K := K) hr.units) (pe_ix (ic_seq (K := K)) (cv 0) (cv 4) (fun _ _ => rfl)) (pe_ix (ic_seq (K := K)) (cv 1) (cv 5) (fun _ _ => rfl)) (nomark _))
            (pss_one (ps_asg (pe_op (oc_add (K := K)) (pe_ix (ic_seq (K := K)) (pe_ix (ic_seq (K := K)) (cv 2) (pe_op (oc_add (K := K)) (cv 4) pe_int) (fun _ _ => rfl)) (pe_op (oc_add (K := K)) (cv 5) pe_int) (fun _ _ => rfl)) pe_int) (pg_sub (pe_ix (ic_seq (K := K)) (cv 2) (cv 4) (fun _ _ => rfl)) (cv 5) set_c)))
            (pss_one (ps_asg (pe_callB (cc_max rfl) (by rfl) T.n_max (by decide +kernel) (pa_cons (pe_ix (ic_seq (K := K)) (pe_ix (ic_seq (K := K)) (cv 2) (pe_op (oc_add (K := K)) (cv 4) pe_int) (fun _ _ => rfl)) (cv 5) (fun _ _ => rfl)) (pa_cons (pe_ix (ic_seq (K := K)) (pe_ix (ic_seq (K := K)) (cv 2) (cv 4) (fun _ _ => rfl)) (pe_op (oc_add (K := K)) (cv 5) pe_int) (fun _ _ => rfl)) pa_nil))) (pg_sub (pe_ix (ic_seq (K := K)) (cv 2) (cv 4) (fun _ _ => rfl)) (cv 5) set_c))))))))
      (pss_one (ps_ret (cv 2)))), ?_⟩
    tm_at "w"
    refine ⟨_, .inl ha, ?_⟩
    rw [List.length_map]
    refine ⟨_, rfl, by omega, by omega, fun D hD => ?_⟩
    refine lc_range (lo := 0) (n := ((od.length : Int) + 1).toNat) (fun i H' => ∃ bs : List Addr, bs.length = i ∧ bs.Nodup ∧ H' D = some (.lst (bs.map V.ref)) ∧ (∀ b ∈ bs, b ≠ D ∧ H b = none ∧ H' b = some (.lst ((List.replicate (nw.length + 1) (0 : Int)).map V.int))) ∧ Same H H') ?_ ?_ ?_
    · exact ⟨[], rfl, List.nodup_nil, upd_same, fun _ h => (nomatch h), Same.new hD⟩
    · rintro i H1 hi ⟨bs, h1, h2, h3, h4, h5⟩
      refine ⟨rfl, ?_⟩
      tm_at "w"
      refine ⟨by show 1 ≤ sizeLine; decide, fun z hz => ?_⟩
      have hz0 : H z = none := h5.free hz
      refine ⟨_, .inl ((h5.wr hz0).seq hb), ?_⟩
      rw [List.length_map]
      refine ⟨z, _, _, rfl, rfl, upd_same, by omega, by omega, ?_, fun p hp => ?_⟩
      · rw [sizeLine_eq]; show 1 * _ ≤ _; omega
      have hp0 : H p = none := h5.free (upd_none hp)
      have hDz : D ≠ z := ne_of_none h3 hz
      have hDp : D ≠ p := ne_of_none (upd_new h3 hz) hp
      rw [rep_flat, show ((nw.length : Int) + 1).toNat = nw.length + 1 by omega, ← List.map_replicate (f := V.int) (a := 0)]
      refine ⟨_, by tm_at "heap", by rw [List.length_map, sizeLine_eq]; omega, bs ++ [p], by rw [List.length_append, h1]; rfl, ?_, by rw [upd_same, List.map_append]; rfl, ?_, ((h5.wr hz0).wr hp0).wr hD⟩
      · refine List.nodup_append.mpr ⟨h2, List.pairwise_singleton _ _, fun x hx y hy e => ?_⟩
        rw [List.mem_singleton.mp hy] at e
        subst e
        have := upd_new (h4 x hx).2.2 hz (o := .lst [.int 0])
        rw [hp] at this
        cases this
      · intro c hc
        rcases List.mem_append.mp hc with h | h
        · obtain ⟨k1, k2, k3⟩ := h4 c h
          exact ⟨k1, k2, upd_oth k1 (upd_new (upd_new k3 hz) hp)⟩
        · rw [List.mem_singleton.mp h]
          exact ⟨hDp.symm, hp0, upd_oth hDp.symm upd_same⟩
    · rintro H1 ⟨as, h1, h2, h3, h4, h5⟩
      rw [show ((od.length : Int) + 1).toNat = od.length + 1 by omega] at h1
      tm_at "w"
      refine ⟨_, .inl (h5.seq ha), ?_⟩
      rw [List.length_map]
      refine ⟨_, _, _, _, rfl, RgC.neg (by omega) (by omega) (by decide) (by decide), ?_⟩
      refine for_rangeC (n := ((od.length : Int) - 1 - -1).toNat) (fun t σ H' => ∃ (u3 u4 u5 : Option V), σ = [some (.ref a), some (.ref b), some (.ref D), u3, u4, u5] ∧ H' D = some (.lst (as.map V.ref)) ∧ Same H H' ∧
        ∀ (j : Nat) (c : Addr), as[j]? = some c → H' c = some (.lst ((rowP nw (od.drop j) (if od.length - t ≤ j then 0 else nw.length)).map V.int))) ?_ ?_ ?_
      · refine ⟨_, _, _, rfl, h3, h5, fun j c hc => ?_⟩
        have hj := (List.getElem?_eq_some_iff.mp hc).1
        rw [(h4 c (List.mem_of_getElem? hc)).2.2]
        congr 3
        by_cases g : od.length - 0 ≤ j
        · rw [show j = od.length by omega, List.drop_length, rowP_nil]
        · rw [if_neg g, rowP_top]
      · rintro t σ H2 ht ⟨u3, u4, u5, rfl, g1, g2, g3⟩
        generalize hoo : od.length - 1 - t = o
        have eo : (od.length : Int) - 1 + (t : Nat) * -1 = ((o : Nat) : Int) := by omega
        have ho1 : o < od.length := by omega
        have hdo := List.drop_eq_getElem_cons ho1
        obtain ⟨ro, hro⟩ : ∃ c, as[o]? = some c := ⟨_, List.getElem?_eq_getElem (show o < as.length by omega)⟩
        obtain ⟨rn, hrn⟩ : ∃ c, as[o + 1]? = some c := ⟨_, List.getElem?_eq_getElem (show o + 1 < as.length by omega)⟩
        have nro : ro ≠ D := (h4 ro (List.mem_of_getElem? hro)).1
        have fro : H ro = none := (h4 ro (List.mem_of_getElem? hro)).2.1
        have nrr : rn ≠ ro := fun e => by
          subst e
          have := (List.getElem?_inj (show o < as.length by omega) h2).mp (hro.trans hrn.symm)
          omega
        tm_at "w"
        refine ⟨_, .inl (g2.seq hb), ?_⟩
        rw [List.length_map]
        refine ⟨_, _, _, _, rfl, RgC.neg (by omega) (by omega) (by decide) (by decide), ?_⟩
        refine for_rangeC (n := ((nw.length : Int) - 1 - -1).toNat) (fun u σ H' => ∃ (u5 : Option V), σ = [some (.ref a), some (.ref b), some (.ref D), u3, some (.int ((od.length : Int) - 1 + (t : Nat) * -1)), u5] ∧ H' D = some (.lst (as.map V.ref)) ∧ Same H H' ∧
          ∀ (j : Nat) (c : Addr), as[j]? = some c → H' c = some (.lst ((rowP nw (od.drop j) (if o + 1 ≤ j then 0 else if j = o then nw.length - u else nw.length)).map V.int))) ?_ ?_ ?_
        · refine ⟨_, rfl, g1, g2, fun j c hc => ?_⟩
          rw [g3 j c hc]
          congr 4
          by_cases k1 : o + 1 ≤ j
          · rw [if_pos k1, if_pos (by omega)]
          · rw [if_neg k1, if_neg (by omega)]
            split <;> omega
        · rintro u σ H3 hu ⟨u5, rfl, k1, k2, k3⟩
          generalize hcc : nw.length - 1 - u = c
          have ec : (nw.length : Int) - 1 + (u : Nat) * -1 = ((c : Nat) : Int) := by omega
          have hc1 : c < nw.length := by omega
          have hdc := List.drop_eq_getElem_cons hc1
          have r1 := k3 o ro hro
          rw [if_neg (by omega), if_pos rfl, show nw.length - u = c + 1 by omega] at r1
          have r2 := k3 (o + 1) rn hrn
          rw [if_pos (Nat.le_refl _)] at r2
          have fin : ∀ v : Int, v = ((Lcs.lcs (od.drop o) (nw.drop c) : Nat) : Int) → ∃ (u5 : Option V), [some (.ref a), some (.ref b), some (.ref D), u3, some (.int ((od.length : Int) - 1 + (t : Nat) * -1)), some (.int ((nw.length : Int) - 1 + (u : Nat) * -1))] = [some (V.ref a), some (.ref b), some (.ref D), u3, some (.int ((od.length : Int) - 1 + (t : Nat) * -1)), u5] ∧
              (upd H3 ro (.lst (((rowP nw (od.drop o) (c + 1)).map V.int).set c (.int v)))) D = some (.lst (as.map V.ref)) ∧ Same H (upd H3 ro (.lst (((rowP nw (od.drop o) (c + 1)).map V.int).set c (.int v)))) ∧
              ∀ (j : Nat) (x : Addr), as[j]? = some x → (upd H3 ro (.lst (((rowP nw (od.drop o) (c + 1)).map V.int).set c (.int v)))) x = some (.lst ((rowP nw (od.drop j) (if o + 1 ≤ j then 0 else if j = o then nw.length - (u + 1) else nw.length)).map V.int)) := by
            rintro v rfl
            refine ⟨_, rfl, upd_oth nro.symm k1, k2.wr fro, fun j x hx => ?_⟩
            by_cases ex : x = ro
            · subst ex
              have : j = o := (List.getElem?_inj (show j < as.length from (List.getElem?_eq_some_iff.mp hx).1) h2).mp (hx.trans hro.symm)
              subst this
              rw [upd_same, ← List.map_set, rowP_set hc1, if_neg (by omega), if_pos rfl, show nw.length - (u + 1) = c by omega]
            · rw [upd_ne ex, k3 j x hx]
              have : j ≠ o := fun e => ex (by subst e; exact Option.some.inj (hx.symm.trans hro))
              rw [if_neg this, if_neg this]
          have key := Lcs.lcs_cons od[o] nw[c] (od.drop (o + 1)) (nw.drop (c + 1))
          rw [← hdo, ← hdc] at key
          tm_at "w"
          refine ⟨_, _, .inl (k2.seq ha), atI_map eo (List.getElem?_eq_getElem ho1), ?_⟩
          refine ⟨_, _, .inl (k2.seq hb), atI_map ec (List.getElem?_eq_getElem hc1), fun h => ?_, fun h => ?_⟩
          · have h := of_decide_eq_true h
            rw [if_pos h] at key
            refine ⟨_, _, .inl (SqL.of k1), atI_map (j := o + 1) (by rw [eo]; rfl) hrn, ?_⟩
            refine ⟨_, _, .inl (SqL.of r2), atI_map (j := c + 1) (by rw [ec]; rfl) (rowP_get (by omega)), ?_⟩
            refine ⟨_, _, .inl (SqL.of k1), atI_map eo hro, ?_⟩
            refine ⟨_, c, r1, ixN_of ec (by rw [List.length_map, rowP_len]; omega), ?_⟩
            exact fin _ (by rw [if_pos (Nat.zero_le _), key]; rfl)
          · have h := of_decide_eq_false h
            rw [if_neg h] at key
            refine ⟨_, _, .inl (SqL.of k1), atI_map (j := o + 1) (by rw [eo]; rfl) hrn, ?_⟩
            refine ⟨_, _, .inl (SqL.of r2), atI_map ec (rowP_get (by omega)), ?_⟩
            refine ⟨_, _, .inl (SqL.of k1), atI_map eo hro, ?_⟩
            refine ⟨_, _, .inl (SqL.of r1), atI_map (j := c + 1) (by rw [ec]; rfl) (rowP_get (by omega)), ?_⟩
            refine ⟨_, _, .inl (SqL.of k1), atI_map eo hro, ?_⟩
            refine ⟨_, c, r1, ixN_of ec (by rw [List.length_map, rowP_len]; omega), ?_⟩
            exact fin _ (by rw [if_pos (Nat.zero_le _), if_pos (Nat.le_refl _), key]; omega)
        · rintro σ H3 ⟨u5, rfl, k1, k2, k3⟩
          refine ⟨_, _, _, rfl, k1, k2, fun j c hc => ?_⟩
          rw [k3 j c hc]
          congr 4
          by_cases m1 : o + 1 ≤ j
          · rw [if_pos m1, if_pos (by omega)]
          · rw [if_neg m1]
            by_cases m2 : j = o
            · rw [if_pos m2, if_pos (by omega)]; omega
            · rw [if_neg m2, if_neg (by omega)]
      · rintro σ H2 ⟨u3, u4, u5, rfl, g1, g2, g3⟩
        refine q D as H2 g2 g1 h1 (fun j c hc => ?_)
        rw [g3 j c hc, if_pos (by omega), rowP_zero]
end
end Toy

namespace Toy
open PySem L2
local macro_rules | `(tactic| tm_at "w") => `(tactic| (conv => whnf))
local macro_rules | `(tactic| tm_at "fr") => `(tactic| first | assumption | exact upd_none (by assumption) | exact upd_none (upd_none (by assumption)) | exact upd_none (upd_none (upd_none (by assumption))) | exact upd_none (upd_none (upd_none (upd_none (by assumption)))))
local macro_rules | `(tactic| tm_at "ne") => `(tactic| first | assumption | (apply Ne.symm; assumption) | exact upd_none_ne (by assumption) | exact (upd_none_ne (by assumption)).symm | exact upd_none_ne (upd_none (by assumption)) | exact (upd_none_ne (upd_none (by assumption))).symm | exact upd_none_ne (upd_none (upd_none (by assumption))) | exact (upd_none_ne (upd_none (upd_none (by assumption)))).symm)
local macro_rules | `(tactic| tm_at "heap") => `(tactic| first | assumption | exact upd_same | (refine upd_new ?_ (by tm_at "fr"); tm_at "heap") | (refine upd_oth (by tm_at "ne") ?_; tm_at "heap") | (refine SameB.get (by assumption) (by tm_at "ne") ?_; tm_at "heap") | (refine Same.get (by assumption) ?_; tm_at "heap"))
local macro_rules | `(tactic| tm_at "sq") => `(tactic| first | assumption | exact SqL.of (by tm_at "heap") | exact SqT.of (by tm_at "heap"))
local macro_rules | `(tactic| tm_at "ix") => `(tactic| (conv => whnf); first | refine ⟨_, _, .inl (by tm_at "sq"), rfl, ?_⟩ | refine ⟨_, _, .inr (by tm_at "sq"), rfl, ?_⟩)
local macro_rules | `(tactic| tm_at "sb") => `(tactic| first | assumption | exact SameB.refl | (refine SameB.ws ?_; tm_at "sb") | (refine SameB.wr ?_ (by tm_at "fr"); tm_at "sb") | (refine SameB.trans ?_ (by assumption); tm_at "sb"))
theorem dist_small {a b : List Str} (h1 : a.length ≤ 10000) (h2 : b.length ≤ 10000) : (Lcs.dist a b).natAbs < 2 ^ 64 := by
  have := Lcs.lcs_le_left a b
  unfold Lcs.dist
  omega
section
variable {P : Program} {w : World} {K : PySem.W.Frag} {mg : Str → Option Value} {base : Heap} {ad : Ad}
theorem ok_law (T : Txt K mg ad) : FnOk P w K mg base CX0 4 ad.a_law ad.d_law ["_law_script"] (spLaw K) := by
  refine T.f_law.ok sc_law (fun vs H Q E h => ?_) (fun cdv A outer s H vs Q E hr h => ?_)
  · obtain ⟨a, ns, rfl, _⟩ := h; rfl
  · obtain ⟨a, ns, rfl, ha, hns, q⟩ := h
    refine ⟨_, pss_cons (ps_for PassesOwn.never rfl (pi_range1 rfl T.n_range (pa_cons (pe_callB (cc_max rfl) (by rfl) T.n_max (by decide +kernel) (pa_cons pe_int (pa_cons (pe_callB (cc_min rfl) (by rfl) T.n_min (by decide +kernel) (pa_cons pe_int (pa_cons (pe_callB (cc_len (K := K)) (by rfl) T.n_len (by decide +kernel) (pa_cons (cv 0) pa_nil)) pa_nil))) pa_nil))) pa_nil)) (pg_name (i := 1) sc_law.nd rfl (by first | exact Or.inl rfl | exact Or.inr rfl))
        (pss_cons (ps_set (i := 2) sc_law.nd rfl (by first | exact Or.inl rfl | exact Or.inr rfl) (pe_call (ok_law_source T) (hr.mono (by decide)) rfl T.m_law_source T.k_law_source T.b_law_source .nil pass0 (pa_cons (cv 0) (pa_cons (cv 1) pa_nil))))
        (pss_cons (ps_for PassesOwn.never rfl (pi_range1 rfl T.n_range (pa_cons pe_int pa_nil)) (pg_name (i := 3) sc_law.nd rfl (by first | exact Or.inl rfl | exact Or.inr rfl))
          (pss_cons (ps_set (i := 4) sc_law.nd rfl (by first | exact Or.inl rfl | exact Or.inr rfl) (pe_ix (ic_seq (K := K)) (pe_lst (pa_cons pe_int (pa_cons pe_int (pa_cons pe_int (pa_cons pe_int pa_nil))))) (pe_call (ok_law_draw T) (hr.mono (by decide)) rfl T.m_law_draw T.k_law_draw T.b_law_draw .nil pass0 (pa_cons (cv 2) (pa_cons pe_int pa_nil))) (fun _ _ => rfl)))
          (pss_cons (ps_set (i := 5) sc_law.nd rfl (by first | exact Or.inl rfl | exact Or.inr rfl) (pe_call (ok_law_some_lines T) (hr.mono (by decide)) rfl T.m_law_some_lines T.k_law_some_lines T.b_law_some_lines .nil pass0 (pa_cons (cv 2) (pa_cons pe_int (pa_cons (cv 4) pa_nil)))))
          (pss_cons (ps_set (i := 6) sc_law.nd rfl (by first | exact Or.inl rfl | exact Or.inr rfl) (pe_call (ok_law_changed_lines T) (hr.mono (by decide)) rfl T.m_law_changed_lines T.k_law_changed_lines T.b_law_changed_lines .nil pass0 (pa_cons (cv 2) (pa_cons (cv 5) (pa_cons pe_int (pa_cons (cv 4) pa_nil))))))
          (pss_cons (PS.cut (cs_if (ct_cmp (oc_eq (K := K) hr.units) (pe_call (ok_law_draw T) (hr.mono (by decide)) rfl T.m_law_draw T.k_law_draw T.b_law_draw .nil pass0 (pa_cons (cv 2) (pa_cons pe_int pa_nil))) pe_int (nomark _))
            (pss_one (ps_set (i := 6) sc_law.nd rfl (by first | exact Or.inl rfl | exact Or.inr rfl) (pe_call (ok_law_some_lines T) (hr.mono (by decide)) rfl T.m_law_some_lines T.k_law_some_lines T.b_law_some_lines .nil pass0 (pa_cons (cv 2) (pa_cons pe_int (pa_cons (cv 4) pa_nil))))))
            pss_nil))
          (pss_cons (ps_set (i := 7) sc_law.nd rfl (by first | exact Or.inl rfl | exact Or.inr rfl) (pe_call (ok_law_some_lines T) (hr.mono (by decide)) rfl T.m_law_some_lines T.k_law_some_lines T.b_law_some_lines .nil pass0 (pa_cons (cv 2) (pa_cons pe_int (pa_cons (cv 4) pa_nil)))))
          (pss_cons (ps_set (i := 8) sc_law.nd rfl (by first | exact Or.inl rfl | exact Or.inr rfl) (pe_call (ok_least_changes T) (hr.mono (by decide)) rfl T.m_least_changes T.k_least_changes T.b_least_changes .nil pass0 (pa_cons (pe_callTy (cc_tuple (K := K)) (by rfl) T.n_tuple (by decide +kernel) (pa_cons (cv 5) pa_nil)) (pa_cons (pe_callTy (cc_tuple (K := K)) (by rfl) T.n_tuple (by decide +kernel) (pa_cons (cv 6) pa_nil)) pa_nil))))
          (pss_cons (cs_if (PW.pt (cw_or (ct_cmp (oc_ne (K := K) hr.units) (pe_callB cc_repr (by rfl) T.n_repr (by decide +kernel) (pa_cons (cv 8) pa_nil)) (pe_callB cc_repr (by rfl) T.n_repr (by decide +kernel) (pa_cons (pe_call (ok_law_tried T) (hr.mono (by decide)) rfl T.m_law_tried T.k_law_tried T.b_law_tried .nil pass0 (pa_cons (cv 5) (pa_cons (cv 6) pa_nil))) pa_nil)) (nomark _)) (pw_or1 (ct_cmp (oc_ne (K := K) hr.units) (pe_call (ok_least_changes T) (hr.mono (by decide)) rfl T.m_least_changes T.k_least_changes T.b_least_changes .nil pass0 (pa_cons (pe_callTy (cc_tuple (K := K)) (by rfl) T.n_tuple (by decide +kernel) (pa_cons (cv 6) pa_nil)) (pa_cons (pe_callTy (cc_tuple (K := K)) (by rfl) T.n_tuple (by decide +kernel) (pa_cons (cv 5) pa_nil)) pa_nil))) (cv 8) (nomark _)))))
            (pss_one (ps_ret pe_bl))
            pss_nil)
          (pss_cons (cs_if (ct_cmp (oc_ne (K := K) hr.units) (pe_cmpR (oc_eq (K := K) hr.units) (cv 8) pe_int (nomark _)) (pe_cmpR (oc_eq (K := K) hr.units) (cv 5) (cv 6) (nomark _)) (nomark _))
            (pss_one (ps_ret pe_bl))
            pss_nil)
          (pss_one (cs_if (ct_cmp oc_gt (cv 8) (pe_op (oc_add (K := K)) (pe_call (ok_least_changes T) (hr.mono (by decide)) rfl T.m_least_changes T.k_least_changes T.b_least_changes .nil pass0 (pa_cons (pe_callTy (cc_tuple (K := K)) (by rfl) T.n_tuple (by decide +kernel) (pa_cons (cv 5) pa_nil)) (pa_cons (pe_callTy (cc_tuple (K := K)) (by rfl) T.n_tuple (by decide +kernel) (pa_cons (cv 7) pa_nil)) pa_nil))) (pe_call (ok_least_changes T) (hr.mono (by decide)) rfl T.m_least_changes T.k_least_changes T.b_least_changes .nil pass0 (pa_cons (pe_callTy (cc_tuple (K := K)) (by rfl) T.n_tuple (by decide +kernel) (pa_cons (cv 7) pa_nil)) (pa_cons (pe_callTy (cc_tuple (K := K)) (by rfl) T.n_tuple (by decide +kernel) (pa_cons (cv 6) pa_nil)) pa_nil)))) (nomark _))
            (pss_one (ps_ret pe_bl))
            pss_nil)))))))))))
        (pss_cons (ps_set (i := 4) sc_law.nd rfl (by first | exact Or.inl rfl | exact Or.inr rfl) (pe_ix (ic_seq (K := K)) (pe_lst (pa_cons pe_int (pa_cons pe_int (pa_cons pe_int pa_nil)))) (pe_call (ok_law_draw T) (hr.mono (by decide)) rfl T.m_law_draw T.k_law_draw T.b_law_draw .nil pass0 (pa_cons (cv 2) (pa_cons pe_int pa_nil))) (fun _ _ => rfl)))
        (pss_cons (ps_set (i := 5) sc_law.nd rfl (by first | exact Or.inl rfl | exact Or.inr rfl) (pe_call (ok_law_some_lines T) (hr.mono (by decide)) rfl T.m_law_some_lines T.k_law_some_lines T.b_law_some_lines .nil pass0 (pa_cons (cv 2) (pa_cons pe_int (pa_cons (cv 4) pa_nil)))))
        (pss_cons (ps_set (i := 6) sc_law.nd rfl (by first | exact Or.inl rfl | exact Or.inr rfl) (pe_call (ok_law_changed_lines T) (hr.mono (by decide)) rfl T.m_law_changed_lines T.k_law_changed_lines T.b_law_changed_lines .nil pass0 (pa_cons (cv 2) (pa_cons (cv 5) (pa_cons pe_int (pa_cons (cv 4) pa_nil))))))
        (pss_cons (ps_set (i := 9) sc_law.nd rfl (by first | exact Or.inl rfl | exact Or.inr rfl) (pe_op oc_sub (pe_op (oc_add (K := K)) (pe_callB (cc_len (K := K)) (by rfl) T.n_len (by decide +kernel) (pa_cons (cv 5) pa_nil)) (pe_callB (cc_len (K := K)) (by rfl) T.n_len (by decide +kernel) (pa_cons (cv 6) pa_nil))) (pe_op oc_mul pe_int (pe_ix (ic_seq (K := K)) (pe_ix (ic_seq (K := K)) (pe_call (ok_law_left_common T) (hr.mono (by decide)) rfl T.m_law_left_common T.k_law_left_common T.b_law_left_common .nil pass0 (pa_cons (cv 5) (pa_cons (cv 6) pa_nil))) pe_int (fun _ _ => rfl)) pe_int (fun _ _ => rfl)))))
        (pss_one (cs_if (ct_cmp (oc_ne (K := K) hr.units) (pe_call (ok_least_changes T) (hr.mono (by decide)) rfl T.m_least_changes T.k_least_changes T.b_least_changes .nil pass0 (pa_cons (pe_callTy (cc_tuple (K := K)) (by rfl) T.n_tuple (by decide +kernel) (pa_cons (cv 5) pa_nil)) (pa_cons (pe_callTy (cc_tuple (K := K)) (by rfl) T.n_tuple (by decide +kernel) (pa_cons (cv 6) pa_nil)) pa_nil))) (cv 9) (nomark _))
          (pss_one (ps_ret pe_bl))
          pss_nil)))))))))
      (pss_one (ps_ret pe_bl)), ?_⟩
    tm_at "w"
    refine ⟨_, .inl ha, ?_⟩
    rw [List.length_map]
    refine ⟨_, rfl, by omega, by omega, ?_⟩
    refine for_range (lo := 0) (n := (max 1 (min 3 (ns.length : Int))).toNat) (fun i σ H' => ∃ (u1 u2 u3 u4 u5 u6 u7 u8 u9 : Option V), σ = [some (.ref a), u1, u2, u3, u4, u5, u6, u7, u8, u9] ∧ Same H H') ⟨_, _, _, _, _, _, _, _, _, rfl, Same.refl _⟩ ?_ (fun σ H' _ => q H')
    rintro i σ H1 hi ⟨u1, u2, u3, u4, u5, u6, u7, u8, u9, rfl, s1⟩
    refine ⟨a, _, ns, rfl, s1.seq ha, hns, by omega, by omega, fun s xs hs hx => ?_⟩
    have hs0 : H s = none := s1.free hs
    refine ⟨_, rfl, by decide, by decide, ?_⟩
    refine for_range (lo := 0) (n := (4 : Int).toNat) (fun j σ H' => ∃ (xs : List V) (u3 u4 u5 u6 u7 u8 u9 : Option V), σ = [some (.ref a), some (.int (0 + (i : Int))), some (.ref s), u3, u4, u5, u6, u7, u8, u9] ∧ Same H H' ∧ H' s = some (.lst xs) ∧ SrcL (1000 * j) xs) ?_ ?_ ?_
    · exact ⟨xs, _, _, _, _, _, _, _, rfl, s1.wr hs0, upd_same, hx⟩
    · rintro j σ H2 hj ⟨xs, u3, u4, u5, u6, u7, u8, u9, rfl, s2, h2, hx2⟩
      have hj4 : j < 4 := hj
      refine ⟨by show 4 ≤ sizeLine; decide, fun p0 hp0 => ?_⟩
      have n0s : s ≠ p0 := ne_of_none h2 hp0
      have s3 : Same H (upd H2 p0 (.lst [.int 0, .int 1, .int 2, .int 3])) := s2.wr (s2.free hp0)
      refine ⟨s, _, _, xs, rfl, upd_oth n0s h2, hx2, by omega, by decide, by decide, fun d1 ys1 hd10 hd11 hy1 => ?_⟩
      obtain ⟨words, hw1, hw2⟩ := atI_ints (ls := [0, 1, 2, 3]) hd10 hd11
      have hw3 : words ≤ 5 := by
        have : ∀ z ∈ ([0, 1, 2, 3] : List Int), z ≤ 5 := by decide
        exact this words hw1
      refine ⟨_, _, .inl (SqL.of (upd_oth n0s.symm upd_same)), hw2, ?_⟩
      have s4 := s3.transB (SameB.at (o := .lst ys1)) hs0
      refine ⟨s, _, _, _, ys1, rfl, upd_same, hy1, by omega, by decide, by decide, hw3, fun od po ys2 H4 k1 k2 k3 k4 k5 k6 k7 => ?_⟩
      have nos : po ≠ s := (ne_of_none upd_same k3).symm
      have s5 := s4.transB k7 hs0
      have k2' : ∀ x ∈ od, x.length ≤ 60 := fun x hx => Nat.le_trans (k2 x hx) (by decide)
      refine ⟨s, po, _, _, _, ys2, od, rfl, k5, k6, by show _ + 3 * 8 < _; omega, SqL.of k4, nos, by omega, k2', by decide, by decide, hw3, fun nw pn ys3 H5 m1 m2 m3 m4 m5 m6 m7 => ?_⟩
      have nns : pn ≠ s := (ne_of_none k5 m3).symm
      have s6 := s5.transB m7 hs0
      have o5 := m7.get nos k4
      have m6' : SrcL (1000 * j + 100) ys3 := m6.mono (by show _ + 3 * 8 + 1 + 12 * 3 ≤ _; omega)
      refine ⟨fun σ' H' => ∃ (nw : List Str) (pn : Addr) (ys : List V), σ' = [some (.ref a), some (.int (0 + (i : Int))), some (.ref s), some (.int (0 + (j : Int))), some (.int words), some (.ref po), some (.ref pn), u7, u8, u9] ∧ Same H H' ∧ H' s = some (.lst ys) ∧ SrcL (1000 * j + 200) ys ∧
        H' po = some (.lst (od.map V.str)) ∧ H' pn = some (.lst (nw.map V.str)) ∧ nw.length ≤ 100 ∧ pn ≠ s, ?_, ?_⟩
      · refine ⟨s, _, _, ys3, rfl, m5, m6', by omega, by decide, by decide, fun d2 ys4 hd20 hd21 hy4 => ?_⟩
        refine ⟨fun _ => ?_, fun _ => ?_⟩
        · refine ⟨s, _, _, _, ys4, rfl, upd_same, hy4, by omega, by decide, by decide, hw3, fun nw2 pn2 ys5 H6 k1' k2 k3 k4 k5 k6 k7 => ?_⟩
          have s7 := s6.transB (SameB.at (o := .lst ys4)) hs0
          exact ⟨nw2, pn2, ys5, rfl, s7.transB k7 hs0, k5, k6.mono (by show _ + 1 + 1 + 3 * 8 ≤ _; omega), k7.get nos (upd_oth nos o5), k4, by omega, (ne_of_none upd_same k3).symm⟩
        · exact ⟨nw, pn, ys4, rfl, s6.transB (SameB.at (o := .lst ys4)) hs0, upd_same, hy4.mono (by omega), upd_oth nos o5, upd_oth nns m4, by omega, nns⟩
      · rintro σ' H6 ⟨nw, pn, ys4, rfl, s7, e1, e2, e3, e4, e5, e6⟩
        clear m1 m2 m3 m4 m5 m6 m7 nns s6 o5 m6'
        refine ⟨s, _, _, _, ys4, rfl, e1, e2, by omega, by decide, by decide, hw3, fun th pt ys5 H7 k1' k2 k3 k4 k5 k6 k7 => ?_⟩
        have s8 := s7.transB k7 hs0
        have o7 := k7.get nos e3
        have n7 := k7.get e6 e4
        have l1 : od.length ≤ 10 ^ 6 := by omega
        have l2 : nw.length ≤ 10 ^ 6 := by omega
        have l3 : th.length ≤ 10 ^ 6 := by omega
        -- least_changes(tuple(old), tuple(new))
        tm_at "w"
        refine ⟨_, .inl ⟨SqL.of o7, fun t1 ht1 => ?_⟩⟩
        refine ⟨_, .inl ⟨SqL.of (upd_new n7 ht1), fun t2 ht2 => ?_⟩⟩
        refine ⟨t1, t2, od, nw, rfl, SqT.of (upd_new upd_same ht2), SqT.of upd_same, l1, l2, fun H8 x8 => ?_⟩
        have s9 : Same H7 H8 := ((Same.new ht1).trans (Same.new ht2)).trans x8
        have o8 := s9 _ _ o7
        have n8 := s9 _ _ n7
        have t8 := s9 _ _ k4
        have d1 : (Lcs.dist od nw).natAbs < 2 ^ 64 := dist_small (by omega) (by omega)
        -- repr(told) != repr(tried(old, new)) or least_changes(tuple(new), tuple(old)) != told
        refine ⟨log2_small d1 (by decide) (by decide), ?_⟩
        refine ⟨po, pn, od, nw, rfl, SqL.of o8, SqL.of n8, by omega, l2, fun H9 x9 => ?_⟩
        have o9 := x9 _ _ o8
        have n9 := x9 _ _ n8
        have t9 := x9 _ _ t8
        refine ⟨log2_small d1 (by decide) (by decide), fun h => ?_, fun _ => ?_⟩
        · exact absurd h (by simp)
        refine ⟨_, .inl ⟨SqL.of n9, fun t3 ht3 => ?_⟩⟩
        refine ⟨_, .inl ⟨SqL.of (upd_new o9 ht3), fun t4 ht4 => ?_⟩⟩
        refine ⟨t3, t4, nw, od, rfl, SqT.of (upd_new upd_same ht4), SqT.of upd_same, l2, l1, fun H10 x10 => ?_⟩
        have s10 : Same H9 H10 := ((Same.new ht3).trans (Same.new ht4)).trans x10
        have o10 := s10 _ _ o9
        have n10 := s10 _ _ n9
        have t10 := s10 _ _ t9
        refine ⟨fun h => ?_, fun _ => ?_⟩
        · rw [Lcs.dist_comm nw od] at h
          exact absurd h (by simp)
        -- (told == 0) != (old == new)
        refine .inl (rEq_strs (.inl ⟨SqL.of o10, SqL.of n10⟩) ?_)
        refine ⟨fun h => ?_, fun _ => ?_⟩
        · have e : decide (Lcs.dist od nw = 0) = decide (od = nw) := by
            by_cases g : od = nw
            · rw [decide_eq_true g, decide_eq_true ((Lcs.dist_zero _ _).mpr g)]
            · rw [decide_eq_false g, decide_eq_false (fun z => g ((Lcs.dist_zero _ _).mp z))]
          rw [e] at h
          exact absurd h (by simp)
        -- told > least_changes(tuple(old), tuple(third)) + least_changes(tuple(third), tuple(new))
        refine ⟨_, .inl ⟨SqL.of o10, fun t5 ht5 => ?_⟩⟩
        refine ⟨_, .inl ⟨SqL.of (upd_new t10 ht5), fun t6 ht6 => ?_⟩⟩
        refine ⟨t5, t6, od, th, rfl, SqT.of (upd_new upd_same ht6), SqT.of upd_same, l1, l3, fun H11 x11 => ?_⟩
        have s11 : Same H10 H11 := ((Same.new ht5).trans (Same.new ht6)).trans x11
        refine ⟨_, .inl ⟨SqL.of (s11 _ _ t10), fun t7 ht7 => ?_⟩⟩
        refine ⟨_, .inl ⟨SqL.of (upd_new (s11 _ _ n10) ht7), fun t8 ht8 => ?_⟩⟩
        refine ⟨t7, t8, th, nw, rfl, SqT.of (upd_new upd_same ht8), SqT.of upd_same, l3, l2, fun H12 x12 => ?_⟩
        have s12 : Same H11 H12 := ((Same.new ht7).trans (Same.new ht8)).trans x12
        refine ⟨fun h => ?_, fun _ => ?_⟩
        · have h := of_decide_eq_true h
          have := Lcs.dist_tri od th nw
          omega
        have sAll : Same H7 H12 := ((s9.trans x9).trans s10).trans (s11.trans s12)
        exact ⟨ys5, _, _, _, _, _, _, _, rfl, s8.trans sAll, sAll _ _ k5, k6.mono (by show _ + 1 + 3 * 8 ≤ _; omega)⟩
    · rintro σ H2 ⟨xs, u3, u4, u5, u6, u7, u8, u9, rfl, s2, h2, hx2⟩
      refine ⟨by show 3 ≤ sizeLine; decide, fun p0 hp0 => ?_⟩
      have n0s : s ≠ p0 := ne_of_none h2 hp0
      have s3 : Same H (upd H2 p0 (.lst [.int 0, .int 2, .int 4])) := s2.wr (s2.free hp0)
      refine ⟨s, _, _, xs, rfl, upd_oth n0s h2, hx2, by decide, by decide, by decide, fun d1 ys1 hd10 hd11 hy1 => ?_⟩
      obtain ⟨words, hw1, hw2⟩ := atI_ints (ls := [0, 2, 4]) hd10 hd11
      have hw3 : words ≤ 5 := by
        have : ∀ z ∈ ([0, 2, 4] : List Int), z ≤ 5 := by decide
        exact this words hw1
      refine ⟨_, _, .inl (SqL.of (upd_oth n0s.symm upd_same)), hw2, ?_⟩
      have s4 := s3.transB (SameB.at (o := .lst ys1)) hs0
      refine ⟨s, _, _, _, ys1, rfl, upd_same, hy1, by decide, by decide, by decide, hw3, fun od po ys2 H4 k1 k2 k3 k4 k5 k6 k7 => ?_⟩
      have nos : po ≠ s := (ne_of_none upd_same k3).symm
      have s5 := s4.transB k7 hs0
      have k2' : ∀ x ∈ od, x.length ≤ 60 := fun x hx => Nat.le_trans (k2 x hx) (by decide)
      refine ⟨s, po, _, _, _, ys2, od, rfl, k5, k6, by decide, SqL.of k4, nos, by omega, k2', by decide, by decide, hw3, fun nw pn ys3 H5 m1 m2 m3 m4 m5 m6 m7 => ?_⟩
      have s6 := s5.transB m7 hs0
      have o5 := m7.get nos k4
      have l1 : od.length ≤ 10 ^ 6 := by omega
      have l2 : nw.length ≤ 10 ^ 6 := by omega
      tm_at "w"
      refine ⟨_, .inl (SqL.of o5), _, .inl (SqL.of m4), ?_⟩
      refine ⟨po, pn, od, nw, rfl, SqL.of o5, SqL.of m4, l1, l2, fun r as H6 g1 g2 g3 g4 => ?_⟩
      obtain ⟨c, hc⟩ : ∃ c, as[0]? = some c := ⟨_, List.getElem?_eq_getElem (show 0 < as.length by omega)⟩
      refine ⟨_, _, .inl (SqL.of g2), atI_map (j := 0) rfl hc, ?_⟩
      refine ⟨_, _, .inl (SqL.of (g4 0 c hc)), atI_map (j := 0) rfl (rowOf_get (Nat.zero_le _)), ?_⟩
      refine ⟨.inl (by decide), ?_⟩
      refine ⟨_, .inl ⟨SqL.of (g1 _ _ o5), fun t1 ht1 => ?_⟩⟩
      refine ⟨_, .inl ⟨SqL.of (upd_new (g1 _ _ m4) ht1), fun t2 ht2 => ?_⟩⟩
      refine ⟨t1, t2, od, nw, rfl, SqT.of (upd_new upd_same ht2), SqT.of upd_same, l1, l2, fun H8 x8 => ?_⟩
      refine ⟨fun h => ?_, fun _ => ?_⟩
      · rw [List.length_map, List.length_map] at h
        exact absurd h (by show ¬ (!decide (Lcs.dist od nw = Lcs.dist od nw)) = true; simp)
      · exact ⟨_, _, _, _, _, _, _, _, _, rfl, ((s6.trans g1).trans ((Same.new ht1).trans (Same.new ht2))).trans x8⟩
end
end Toy

namespace Toy
open PySem L2
theorem all_mk {K : PySem.W.Frag} {h : Heap} {mg : Str → Option Value} {fa : Addr} (X : K.In h) (G : h.Ns mainGlobals mg) (hfa : mg "law" = some (.ref fa))
    {f_common_lengths : Addr} {od_common_lengths an_common_lengths : Option Addr} {sl_common_lengths : Array (Option Value)} {oc_common_lengths kV_common_lengths dc_common_lengths pm_common_lengths cd_common_lengths ct_common_lengths : Value}
    {f_least_changes : Addr} {od_least_changes an_least_changes : Option Addr} {sl_least_changes : Array (Option Value)} {oc_least_changes kV_least_changes dc_least_changes pm_least_changes cd_least_changes ct_least_changes : Value}
    {f_law_source : Addr} {od_law_source an_law_source : Option Addr} {sl_law_source : Array (Option Value)} {oc_law_source kV_law_source dc_law_source pm_law_source cd_law_source ct_law_source : Value}
    {f_law_draw : Addr} {od_law_draw an_law_draw : Option Addr} {sl_law_draw : Array (Option Value)} {oc_law_draw kV_law_draw dc_law_draw pm_law_draw cd_law_draw ct_law_draw : Value}
    {f_law_shuffled : Addr} {od_law_shuffled an_law_shuffled : Option Addr} {sl_law_shuffled : Array (Option Value)} {oc_law_shuffled kV_law_shuffled dc_law_shuffled pm_law_shuffled cd_law_shuffled ct_law_shuffled : Value}
    {f_law_some_lines : Addr} {od_law_some_lines an_law_some_lines : Option Addr} {sl_law_some_lines : Array (Option Value)} {oc_law_some_lines kV_law_some_lines dc_law_some_lines pm_law_some_lines cd_law_some_lines ct_law_some_lines : Value}
    {f_law_changed_lines : Addr} {od_law_changed_lines an_law_changed_lines : Option Addr} {sl_law_changed_lines : Array (Option Value)} {oc_law_changed_lines kV_law_changed_lines dc_law_changed_lines pm_law_changed_lines cd_law_changed_lines ct_law_changed_lines : Value}
    {f_law_left_common : Addr} {od_law_left_common an_law_left_common : Option Addr} {sl_law_left_common : Array (Option Value)} {oc_law_left_common kV_law_left_common dc_law_left_common pm_law_left_common cd_law_left_common ct_law_left_common : Value}
    {f_law_is_within : Addr} {od_law_is_within an_law_is_within : Option Addr} {sl_law_is_within : Array (Option Value)} {oc_law_is_within kV_law_is_within dc_law_is_within pm_law_is_within cd_law_is_within ct_law_is_within : Value}
    {f_law_tried : Addr} {od_law_tried an_law_tried : Option Addr} {sl_law_tried : Array (Option Value)} {oc_law_tried kV_law_tried dc_law_tried pm_law_tried cd_law_tried ct_law_tried : Value}
    {f_law : Addr} {od_law an_law : Option Addr} {sl_law : Array (Option Value)} {oc_law kV_law dc_law pm_law cd_law ct_law : Value}
    (zlen : PySem.W.nsIn K mainGlobals "len" = some none)
    (zlist : PySem.W.nsIn K mainGlobals "list" = some none)
    (zmax : PySem.W.nsIn K mainGlobals "max" = some none)
    (zmin : PySem.W.nsIn K mainGlobals "min" = some none)
    (zrange : PySem.W.nsIn K mainGlobals "range" = some none)
    (zrepr : PySem.W.nsIn K mainGlobals "repr" = some none)
    (zreversed : PySem.W.nsIn K mainGlobals "reversed" = some none)
    (zstr : PySem.W.nsIn K mainGlobals "str" = some none)
    (ztuple : PySem.W.nsIn K mainGlobals "tuple" = some none)
    (a_common_lengths : PySem.W.nsIn K mainGlobals "common_lengths" = some (some (.ref f_common_lengths)))
    (l_common_lengths : K.lookup f_common_lengths = some ⟨oc_common_lengths, od_common_lengths, .func (PySem.W.fnOf "common_lengths" "common_lengths" (defArgs s_common_lengths) (defBody s_common_lengths) (defScope s_common_lengths) .none kV_common_lengths dc_common_lengths pm_common_lengths an_common_lengths cd_common_lengths ct_common_lengths), sl_common_lengths⟩)
    (c_common_lengths : PySem.W.codeIn K cd_common_lengths "common_lengths" = true)
    (k_common_lengths : PySem.W.keepIn K (.ref f_common_lengths) = true)
    (a_least_changes : PySem.W.nsIn K mainGlobals "least_changes" = some (some (.ref f_least_changes)))
    (l_least_changes : K.lookup f_least_changes = some ⟨oc_least_changes, od_least_changes, .func (PySem.W.fnOf "least_changes" "least_changes" (defArgs s_least_changes) (defBody s_least_changes) (defScope s_least_changes) .none kV_least_changes dc_least_changes pm_least_changes an_least_changes cd_least_changes ct_least_changes), sl_least_changes⟩)
    (c_least_changes : PySem.W.codeIn K cd_least_changes "least_changes" = true)
    (k_least_changes : PySem.W.keepIn K (.ref f_least_changes) = true)
    (a_law_source : PySem.W.nsIn K mainGlobals "_law_source" = some (some (.ref f_law_source)))
    (l_law_source : K.lookup f_law_source = some ⟨oc_law_source, od_law_source, .func (PySem.W.fnOf "_law_source" "_law_source" (defArgs s_law_source) (defBody s_law_source) (defScope s_law_source) .none kV_law_source dc_law_source pm_law_source an_law_source cd_law_source ct_law_source), sl_law_source⟩)
    (c_law_source : PySem.W.codeIn K cd_law_source "_law_source" = true)
    (k_law_source : PySem.W.keepIn K (.ref f_law_source) = true)
    (a_law_draw : PySem.W.nsIn K mainGlobals "_law_draw" = some (some (.ref f_law_draw)))
    (l_law_draw : K.lookup f_law_draw = some ⟨oc_law_draw, od_law_draw, .func (PySem.W.fnOf "_law_draw" "_law_draw" (defArgs s_law_draw) (defBody s_law_draw) (defScope s_law_draw) .none kV_law_draw dc_law_draw pm_law_draw an_law_draw cd_law_draw ct_law_draw), sl_law_draw⟩)
    (c_law_draw : PySem.W.codeIn K cd_law_draw "_law_draw" = true)
    (k_law_draw : PySem.W.keepIn K (.ref f_law_draw) = true)
    (a_law_shuffled : PySem.W.nsIn K mainGlobals "_law_shuffled" = some (some (.ref f_law_shuffled)))
    (l_law_shuffled : K.lookup f_law_shuffled = some ⟨oc_law_shuffled, od_law_shuffled, .func (PySem.W.fnOf "_law_shuffled" "_law_shuffled" (defArgs s_law_shuffled) (defBody s_law_shuffled) (defScope s_law_shuffled) .none kV_law_shuffled dc_law_shuffled pm_law_shuffled an_law_shuffled cd_law_shuffled ct_law_shuffled), sl_law_shuffled⟩)
    (c_law_shuffled : PySem.W.codeIn K cd_law_shuffled "_law_shuffled" = true)
    (k_law_shuffled : PySem.W.keepIn K (.ref f_law_shuffled) = true)
    (a_law_some_lines : PySem.W.nsIn K mainGlobals "_law_some_lines" = some (some (.ref f_law_some_lines)))
    (l_law_some_lines : K.lookup f_law_some_lines = some ⟨oc_law_some_lines, od_law_some_lines, .func (PySem.W.fnOf "_law_some_lines" "_law_some_lines" (defArgs s_law_some_lines) (defBody s_law_some_lines) (defScope s_law_some_lines) .none kV_law_some_lines dc_law_some_lines pm_law_some_lines an_law_some_lines cd_law_some_lines ct_law_some_lines), sl_law_some_lines⟩)
    (c_law_some_lines : PySem.W.codeIn K cd_law_some_lines "_law_some_lines" = true)
    (k_law_some_lines : PySem.W.keepIn K (.ref f_law_some_lines) = true)
    (a_law_changed_lines : PySem.W.nsIn K mainGlobals "_law_changed_lines" = some (some (.ref f_law_changed_lines)))
    (l_law_changed_lines : K.lookup f_law_changed_lines = some ⟨oc_law_changed_lines, od_law_changed_lines, .func (PySem.W.fnOf "_law_changed_lines" "_law_changed_lines" (defArgs s_law_changed_lines) (defBody s_law_changed_lines) (defScope s_law_changed_lines) .none kV_law_changed_lines dc_law_changed_lines pm_law_changed_lines an_law_changed_lines cd_law_changed_lines ct_law_changed_lines), sl_law_changed_lines⟩)
    (c_law_changed_lines : PySem.W.codeIn K cd_law_changed_lines "_law_changed_lines" = true)
    (k_law_changed_lines : PySem.W.keepIn K (.ref f_law_changed_lines) = true)
    (a_law_left_common : PySem.W.nsIn K mainGlobals "_law_left_common" = some (some (.ref f_law_left_common)))
    (l_law_left_common : K.lookup f_law_left_common = some ⟨oc_law_left_common, od_law_left_common, .func (PySem.W.fnOf "_law_left_common" "_law_left_common" (defArgs s_law_left_common) (defBody s_law_left_common) (defScope s_law_left_common) .none kV_law_left_common dc_law_left_common pm_law_left_common an_law_left_common cd_law_left_common ct_law_left_common), sl_law_left_common⟩)
    (c_law_left_common : PySem.W.codeIn K cd_law_left_common "_law_left_common" = true)
    (k_law_left_common : PySem.W.keepIn K (.ref f_law_left_common) = true)
    (a_law_is_within : PySem.W.nsIn K mainGlobals "_law_is_within" = some (some (.ref f_law_is_within)))
    (l_law_is_within : K.lookup f_law_is_within = some ⟨oc_law_is_within, od_law_is_within, .func (PySem.W.fnOf "_law_is_within" "_law_is_within" (defArgs s_law_is_within) (defBody s_law_is_within) (defScope s_law_is_within) .none kV_law_is_within dc_law_is_within pm_law_is_within an_law_is_within cd_law_is_within ct_law_is_within), sl_law_is_within⟩)
    (c_law_is_within : PySem.W.codeIn K cd_law_is_within "_law_is_within" = true)
    (k_law_is_within : PySem.W.keepIn K (.ref f_law_is_within) = true)
    (a_law_tried : PySem.W.nsIn K mainGlobals "_law_tried" = some (some (.ref f_law_tried)))
    (l_law_tried : K.lookup f_law_tried = some ⟨oc_law_tried, od_law_tried, .func (PySem.W.fnOf "_law_tried" "_law_tried" (defArgs s_law_tried) (defBody s_law_tried) (defScope s_law_tried) .none kV_law_tried dc_law_tried pm_law_tried an_law_tried cd_law_tried ct_law_tried), sl_law_tried⟩)
    (c_law_tried : PySem.W.codeIn K cd_law_tried "_law_tried" = true)
    (k_law_tried : PySem.W.keepIn K (.ref f_law_tried) = true)
    (a_law : PySem.W.nsIn K mainGlobals "law" = some (some (.ref f_law)))
    (l_law : K.lookup f_law = some ⟨oc_law, od_law, .func (PySem.W.fnOf "law" "law" (defArgs s_law) (defBody s_law) (defScope s_law) .none kV_law dc_law pm_law an_law cd_law ct_law), sl_law⟩)
    (c_law : PySem.W.codeIn K cd_law "law" = true)
    (k_law : PySem.W.keepIn K (.ref f_law) = true) :
    ∃ ad : Ad, Txt K mg ad ∧ ad.a_law = fa := by
  have e : fa = f_law := Value.ref.inj (Option.some.inj (hfa.symm.trans (PySem.W.mg_of X G a_law)))
  refine ⟨{ a_common_lengths := f_common_lengths, d_common_lengths := PySem.W.fnOf "common_lengths" "common_lengths" (defArgs s_common_lengths) (defBody s_common_lengths) (defScope s_common_lengths) .none kV_common_lengths dc_common_lengths pm_common_lengths an_common_lengths cd_common_lengths ct_common_lengths, a_least_changes := f_least_changes, d_least_changes := PySem.W.fnOf "least_changes" "least_changes" (defArgs s_least_changes) (defBody s_least_changes) (defScope s_least_changes) .none kV_least_changes dc_least_changes pm_least_changes an_least_changes cd_least_changes ct_least_changes, a_law_source := f_law_source, d_law_source := PySem.W.fnOf "_law_source" "_law_source" (defArgs s_law_source) (defBody s_law_source) (defScope s_law_source) .none kV_law_source dc_law_source pm_law_source an_law_source cd_law_source ct_law_source, a_law_draw := f_law_draw, d_law_draw := PySem.W.fnOf "_law_draw" "_law_draw" (defArgs s_law_draw) (defBody s_law_draw) (defScope s_law_draw) .none kV_law_draw dc_law_draw pm_law_draw an_law_draw cd_law_draw ct_law_draw, a_law_shuffled := f_law_shuffled, d_law_shuffled := PySem.W.fnOf "_law_shuffled" "_law_shuffled" (defArgs s_law_shuffled) (defBody s_law_shuffled) (defScope s_law_shuffled) .none kV_law_shuffled dc_law_shuffled pm_law_shuffled an_law_shuffled cd_law_shuffled ct_law_shuffled, a_law_some_lines := f_law_some_lines, d_law_some_lines := PySem.W.fnOf "_law_some_lines" "_law_some_lines" (defArgs s_law_some_lines) (defBody s_law_some_lines) (defScope s_law_some_lines) .none kV_law_some_lines dc_law_some_lines pm_law_some_lines an_law_some_lines cd_law_some_lines ct_law_some_lines, a_law_changed_lines := f_law_changed_lines, d_law_changed_lines := PySem.W.fnOf "_law_changed_lines" "_law_changed_lines" (defArgs s_law_changed_lines) (defBody s_law_changed_lines) (defScope s_law_changed_lines) .none kV_law_changed_lines dc_law_changed_lines pm_law_changed_lines an_law_changed_lines cd_law_changed_lines ct_law_changed_lines, a_law_left_common := f_law_left_common, d_law_left_common := PySem.W.fnOf "_law_left_common" "_law_left_common" (defArgs s_law_left_common) (defBody s_law_left_common) (defScope s_law_left_common) .none kV_law_left_common dc_law_left_common pm_law_left_common an_law_left_common cd_law_left_common ct_law_left_common, a_law_is_within := f_law_is_within, d_law_is_within := PySem.W.fnOf "_law_is_within" "_law_is_within" (defArgs s_law_is_within) (defBody s_law_is_within) (defScope s_law_is_within) .none kV_law_is_within dc_law_is_within pm_law_is_within an_law_is_within cd_law_is_within ct_law_is_within, a_law_tried := f_law_tried, d_law_tried := PySem.W.fnOf "_law_tried" "_law_tried" (defArgs s_law_tried) (defBody s_law_tried) (defScope s_law_tried) .none kV_law_tried dc_law_tried pm_law_tried an_law_tried cd_law_tried ct_law_tried, a_law := f_law, d_law := PySem.W.fnOf "law" "law" (defArgs s_law) (defBody s_law) (defScope s_law) .none kV_law dc_law pm_law an_law cd_law ct_law }, ?_, e.symm⟩
  exact {
    n_len := PySem.W.mg_none_of X G zlen,
    n_list := PySem.W.mg_none_of X G zlist,
    n_max := PySem.W.mg_none_of X G zmax,
    n_min := PySem.W.mg_none_of X G zmin,
    n_range := PySem.W.mg_none_of X G zrange,
    n_repr := PySem.W.mg_none_of X G zrepr,
    n_reversed := PySem.W.mg_none_of X G zreversed,
    n_str := PySem.W.mg_none_of X G zstr,
    n_tuple := PySem.W.mg_none_of X G ztuple,
    f_common_lengths := fun_mk (st := s_common_lengths) l_common_lengths c_common_lengths k_common_lengths,
    m_common_lengths := PySem.W.mg_of X G a_common_lengths,
    k_common_lengths := k_common_lengths,
    b_common_lengths := (fun_mk (st := s_common_lengths) l_common_lengths c_common_lengths k_common_lengths).binds (ps := ["old", "new"]) fun _ _ _ _ _ _ us hl => match us, hl with | [_, _], _ => rfl,
    f_least_changes := fun_mk (st := s_least_changes) l_least_changes c_least_changes k_least_changes,
    m_least_changes := PySem.W.mg_of X G a_least_changes,
    k_least_changes := k_least_changes,
    b_least_changes := (fun_mk (st := s_least_changes) l_least_changes c_least_changes k_least_changes).binds (ps := ["old", "new"]) fun _ _ _ _ _ _ us hl => match us, hl with | [_, _], _ => rfl,
    f_law_source := fun_mk (st := s_law_source) l_law_source c_law_source k_law_source,
    m_law_source := PySem.W.mg_of X G a_law_source,
    k_law_source := k_law_source,
    b_law_source := (fun_mk (st := s_law_source) l_law_source c_law_source k_law_source).binds (ps := ["_law_script", "_law_index"]) fun _ _ _ _ _ _ us hl => match us, hl with | [_, _], _ => rfl,
    f_law_draw := fun_mk (st := s_law_draw) l_law_draw c_law_draw k_law_draw,
    m_law_draw := PySem.W.mg_of X G a_law_draw,
    k_law_draw := k_law_draw,
    b_law_draw := (fun_mk (st := s_law_draw) l_law_draw c_law_draw k_law_draw).binds (ps := ["_law_source_here", "_law_bound"]) fun _ _ _ _ _ _ us hl => match us, hl with | [_, _], _ => rfl,
    f_law_shuffled := fun_mk (st := s_law_shuffled) l_law_shuffled c_law_shuffled k_law_shuffled,
    m_law_shuffled := PySem.W.mg_of X G a_law_shuffled,
    k_law_shuffled := k_law_shuffled,
    b_law_shuffled := (fun_mk (st := s_law_shuffled) l_law_shuffled c_law_shuffled k_law_shuffled).binds (ps := ["_law_source_here", "_law_things"]) fun _ _ _ _ _ _ us hl => match us, hl with | [_, _], _ => rfl,
    f_law_some_lines := fun_mk (st := s_law_some_lines) l_law_some_lines c_law_some_lines k_law_some_lines,
    m_law_some_lines := PySem.W.mg_of X G a_law_some_lines,
    k_law_some_lines := k_law_some_lines,
    b_law_some_lines := (fun_mk (st := s_law_some_lines) l_law_some_lines c_law_some_lines k_law_some_lines).binds (ps := ["_law_source_here", "_law_most", "_law_words"]) fun _ _ _ _ _ _ us hl => match us, hl with | [_, _, _], _ => rfl,
    f_law_changed_lines := fun_mk (st := s_law_changed_lines) l_law_changed_lines c_law_changed_lines k_law_changed_lines,
    m_law_changed_lines := PySem.W.mg_of X G a_law_changed_lines,
    k_law_changed_lines := k_law_changed_lines,
    b_law_changed_lines := (fun_mk (st := s_law_changed_lines) l_law_changed_lines c_law_changed_lines k_law_changed_lines).binds (ps := ["_law_source_here", "_law_lines", "_law_deeds", "_law_words"]) fun _ _ _ _ _ _ us hl => match us, hl with | [_, _, _, _], _ => rfl,
    f_law_left_common := fun_mk (st := s_law_left_common) l_law_left_common c_law_left_common k_law_left_common,
    m_law_left_common := PySem.W.mg_of X G a_law_left_common,
    k_law_left_common := k_law_left_common,
    b_law_left_common := (fun_mk (st := s_law_left_common) l_law_left_common c_law_left_common k_law_left_common).binds (ps := ["_law_old", "_law_new"]) fun _ _ _ _ _ _ us hl => match us, hl with | [_, _], _ => rfl,
    f_law_is_within := fun_mk (st := s_law_is_within) l_law_is_within c_law_is_within k_law_is_within,
    m_law_is_within := PySem.W.mg_of X G a_law_is_within,
    k_law_is_within := k_law_is_within,
    b_law_is_within := (fun_mk (st := s_law_is_within) l_law_is_within c_law_is_within k_law_is_within).binds (ps := ["_law_some", "_law_lines"]) fun _ _ _ _ _ _ us hl => match us, hl with | [_, _], _ => rfl,
    f_law_tried := fun_mk (st := s_law_tried) l_law_tried c_law_tried k_law_tried,
    m_law_tried := PySem.W.mg_of X G a_law_tried,
    k_law_tried := k_law_tried,
    b_law_tried := (fun_mk (st := s_law_tried) l_law_tried c_law_tried k_law_tried).binds (ps := ["_law_old", "_law_new"]) fun _ _ _ _ _ _ us hl => match us, hl with | [_, _], _ => rfl,
    f_law := fun_mk (st := s_law) l_law c_law k_law,
    m_law := PySem.W.mg_of X G a_law,
    k_law := k_law,
    b_law := (fun_mk (st := s_law) l_law c_law k_law).binds (ps := ["_law_script"]) fun _ _ _ _ _ _ us hl => match us, hl with | [_], _ => rfl }

theorem walk {l : PySem.W.OpenLaw} {q : Program} {loose : List Str} {XP : (Str → Option Value) → Heap → Prop} {YP : World → Heap → Prop} {d : DefRec} {K : Params → PySem.W.Frag} (hn : l.most = some 63) (hdf : d.params.defaults = [])
    (hY : ∀ (w : World) (h : Heap), YP w h → (K w.params).In h)
    (F : ∀ (w : World) (mg : Str → Option Value) (fa : Addr) (h : Heap), (K w.params).In h → h.Ns mainGlobals mg → mg d.name = some (.ref fa) → ∃ ad : Ad, Txt (K w.params) mg ad ∧ ad.a_law = fa) :
    PySem.W.WalkO q loose XP YP l.row.toRowW d [] (fun f vs => PySem.call f vs) := by
  refine L2.walk_of (n := 63) (k := 4) (x := "_law_script") (CX := fun _ => CX0) (sp := fun w => spLaw (K w.params)) hn (by decide) hdf ⟨rfl, by decide, by decide⟩ hY ?_ (fun _ _ a ns hl _ hS => ⟨a, ns, rfl, hS, hl, fun _ => rfl⟩) fun _ _ _ _ _ z => z
  intro w mg fa h hK hG hm
  obtain ⟨ad, T, rfl⟩ := F w mg fa h hK hG hm
  refine ⟨ad.d_law, fun s v => ?_, fun base _ _ => ok_law T⟩
  obtain ⟨oc, od, kV, doc, pm, an, cdv, ct, osl, e, _⟩ := T.f_law.ex
  rw [e]
  exact .of_eq rfl

end Toy
open PySem PySem.W PyProof.Rows in
set_option maxRecDepth 100000 in
set_option maxHeartbeats 0 in
theorem PySem.Challenge.cw_sourcequeue_k09_least_changes_holds : PySem.Challenge.rw_sourcequeue_k09_least_changes.Holds := by
  w_on; o_law; k_head; (case hw => w_witness2)
  k_fill
  refine Toy.walk (l := PySem.Challenge.rw_sourcequeue_k09_least_changes) rfl rfl (fun w h Y => PySem.W.kIn_of Y) ?F
  case F =>
    intro w mg fa h KX G hmg
    refine' Toy.all_mk KX G hmg ?zlen ?zlist ?zmax ?zmin ?zrange ?zrepr ?zreversed ?zstr ?ztuple ?a_common_lengths ?l_common_lengths ?c_common_lengths ?k_common_lengths ?a_least_changes ?l_least_changes ?c_least_changes ?k_least_changes ?a_law_source ?l_law_source ?c_law_source ?k_law_source ?a_law_draw ?l_law_draw ?c_law_draw ?k_law_draw ?a_law_shuffled ?l_law_shuffled ?c_law_shuffled ?k_law_shuffled ?a_law_some_lines ?l_law_some_lines ?c_law_some_lines ?k_law_some_lines ?a_law_changed_lines ?l_law_changed_lines ?c_law_changed_lines ?k_law_changed_lines ?a_law_left_common ?l_law_left_common ?c_law_left_common ?k_law_left_common ?a_law_is_within ?l_law_is_within ?c_law_is_within ?k_law_is_within ?a_law_tried ?l_law_tried ?c_law_tried ?k_law_tried ?a_law ?l_law ?c_law ?k_law
    (case zlen => k_is)
    (case zlist => k_is)
    (case zmax => k_is)
    (case zmin => k_is)
    (case zrange => k_is)
    (case zrepr => k_is)
    (case zreversed => k_is)
    (case zstr => k_is)
    (case ztuple => k_is)
    (case a_common_lengths => k_is)
    (case l_common_lengths => k_is)
    (case c_common_lengths => k_is)
    (case k_common_lengths => k_is)
    (case a_least_changes => k_is)
    (case l_least_changes => k_is)
    (case c_least_changes => k_is)
    (case k_least_changes => k_is)
    (case a_law_source => k_is)
    (case l_law_source => k_is)
    (case c_law_source => k_is)
    (case k_law_source => k_is)
    (case a_law_draw => k_is)
    (case l_law_draw => k_is)
    (case c_law_draw => k_is)
    (case k_law_draw => k_is)
    (case a_law_shuffled => k_is)
    (case l_law_shuffled => k_is)
    (case c_law_shuffled => k_is)
    (case k_law_shuffled => k_is)
    (case a_law_some_lines => k_is)
    (case l_law_some_lines => k_is)
    (case c_law_some_lines => k_is)
    (case k_law_some_lines => k_is)
    (case a_law_changed_lines => k_is)
    (case l_law_changed_lines => k_is)
    (case c_law_changed_lines => k_is)
    (case k_law_changed_lines => k_is)
    (case a_law_left_common => k_is)
    (case l_law_left_common => k_is)
    (case c_law_left_common => k_is)
    (case k_law_left_common => k_is)
    (case a_law_is_within => k_is)
    (case l_law_is_within => k_is)
    (case c_law_is_within => k_is)
    (case k_law_is_within => k_is)
    (case a_law_tried => k_is)
    (case l_law_tried => k_is)
    (case c_law_tried => k_is)
    (case k_law_tried => k_is)
    (case a_law => k_is)
    (case l_law => k_is)
    (case c_law => k_is)
    (case k_law => k_is)


