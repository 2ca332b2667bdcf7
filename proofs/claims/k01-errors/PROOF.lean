import PyProof.Rows.All
import Wide.All
import OpenK.AllK
import Wide.FinOn
import HandS.ForMost
import HandS.Wide
import HandS.Walk
import HandS.Rev
import HandS.Flt
import HandS.RaiseMore
import PyProof.NeData
import KE.KSuper
import HandS.Nested
import HandS.OwnEq
import PyProof.InstEq
import HandS.IsInst
import HandS.FStr
import HandS.ExcInit
import HandS.ExcIs
import HandS.ExcField
import HandS.MakeKw
import HandS.ClsMeth
import HandS.ExcOwn
import KE.OsRunLaw
import PySem.Challenge.RW_sourcequeue_k01_errors
set_option Elab.async false
set_option linter.all false
set_option maxRecDepth 100000
set_option maxHeartbeats 4000000
/-! A layer of our own over HandS: readings that compute (a match on the values in place of an existence), rules that serve several kinds of values, heaps, sources. -/
namespace L2
open PySem PySem.Spec PyProof.Rows

/-! ### weaker readings -/
section
variable {X : Cx}
theorem PE.weak {e : Expr} {t t' : TE} (h : PE X e t) (w : ∀ σ H Q, t' σ H Q → t σ H Q) : PE X e t' := ⟨fun pins s σ H Q I q => h.run pins s σ H Q I (w σ H Q q)⟩
theorem PT.weak {e : Expr} {t t' : TT} (h : PT X e t) (w : ∀ σ H Q, t' σ H Q → t σ H Q) : PT X e t' := ⟨fun pins s σ H Q I q => h.run pins s σ H Q I (w σ H Q q)⟩
theorem PW.weak {e : Expr} {t t' : TT} (h : PW X e t) (w : ∀ σ H Q, t' σ H Q → t σ H Q) : PW X e t' := ⟨fun wh pins s σ H Q I q => h.run wh pins s σ H Q I (w σ H Q q)⟩
theorem PS.weak {st : Stmt} {t t' : TS} (h : PS X st t) (w : ∀ D σ H, t' D σ H → t D σ H) : PS X st t' := ⟨fun pins s σ H D I q => h.run pins s σ H D I (w D σ H q)⟩
theorem PSs.weak {st : List Stmt} {t t' : TS} (h : PSs X st t) (w : ∀ D σ H, t' D σ H → t D σ H) : PSs X st t' := ⟨fun pins s σ H D I q => h.run pins s σ H D I (w D σ H q)⟩
theorem PI.weak {tg iter : Expr} {t t' : TI} (h : PI X tg iter t) (w : ∀ σ H R, t' σ H R → t σ H R) : PI X tg iter t' := ⟨fun pins s σ H R I q => h.run pins s σ H R I (w σ H R q)⟩
theorem PI.or {tg iter : Expr} {wi wi' : TI} (h : PI X tg iter wi) (h' : PI X tg iter wi') : PI X tg iter (fun σ H R => wi σ H R ∨ wi' σ H R) :=
  ⟨fun pins s σ H R I q => q.elim (fun q => h.run pins s σ H R I q) fun q => h'.run pins s σ H R I q⟩
theorem PE.or {e : Expr} {t t' : TE} (h : PE X e t) (h' : PE X e t') : PE X e (fun σ H Q => t σ H Q ∨ t' σ H Q) :=
  ⟨fun pins s σ H R I q => q.elim (fun q => h.run pins s σ H R I q) fun q => h'.run pins s σ H R I q⟩
theorem OpR.weak {f : Value → Value → Sem Value} {r r' : R2} (h : OpR X f r) (w : ∀ x y H Q, r' x y H Q → r x y H Q) : OpR X f r' := fun pins s σ H x y v u Q I rx ry q => h pins s σ H x y v u Q I rx ry (w x y H Q q)
theorem CallR.weak {f : Value} {r r' : List V → Hp → VK → Prop} (h : CallR X f r) (w : ∀ xs H Q, r' xs H Q → r xs H Q) : CallR X f r' := fun pins s σ H xs us Q I rx q => h pins s σ H xs us Q I rx (w xs H Q q)
theorem IxR.weak {r r' : R2} (h : IxR X r) (w : ∀ x y H Q, r' x y H Q → r x y H Q) : IxR X r' := fun va sl pins s σ H x y v u Q I rx ry q => h va sl pins s σ H x y v u Q I rx ry (w x y H Q q)
theorem MtR.weak {id : String} {r r' : V → List V → Hp → VK → Prop} (h : MtR X id r) (w : ∀ x xs H Q, r' x xs H Q → r x xs H Q) : MtR X id r' := fun pins s σ H x xs v us Q I rx rs q => h pins s σ H x xs v us Q I rx rs (w x xs H Q q)
theorem PSet.weak {t t' : TSet} (h : PSet X t) (w : ∀ o i v H Q, t' o i v H Q → t o i v H Q) : PSet X t' := fun pins s σ H o i v ov iv u Q I r1 r2 r3 q => h pins s σ H o i v ov iv u Q I r1 r2 r3 (w o i v H Q q)
end

/-! ### ** of greater numbers -/
def CPowW (i j : Int) : Prop := 0 ≤ j ∧ (Builtin.Int.intBits i : Int) * j ≤ 2 ^ 27
theorem pow_bits {i j : Int} {a : Nat} (ha : i.natAbs < 2 ^ a) (h0 : 0 < a) (hj : 0 ≤ j) (h : ((a : Int) + 1) * j ≤ 2 ^ 27) : CPowW i j := by
  refine ⟨hj, ?_⟩
  have x := PySem.Flt.log2_lt_of h0 ha
  have b : Builtin.Int.intBits i ≤ i.natAbs.log2 + 1 := by
    unfold Builtin.Int.intBits
    split <;> omega
  have h2 : (Builtin.Int.intBits i : Int) ≤ (a : Int) + 1 := by omega
  exact Int.le_trans (Int.mul_le_mul_of_nonneg_right h2 hj) h
theorem log2_small {i : Int} {a : Nat} (ha : i.natAbs < 2 ^ a) (h0 : 0 < a) (h : a ≤ 1920) : i.natAbs.log2 < 1920 := Nat.lt_of_lt_of_le (PySem.Flt.log2_lt_of h0 ha) h

/-! ### names, branches -/
def br (b : Bool) (A B : Prop) : Prop := (b = true → A) ∧ (b = false → B)
theorem br.ite {b : Bool} {A B : Prop} (h : br b A B) : if b = true then A else B := by
  cases b with
  | true => rw [if_pos rfl]; exact h.1 rfl
  | false => rw [if_neg Bool.false_ne_true]; exact h.2 rfl
theorem br.t {A B : Prop} (h : A) : br true A B := ⟨fun _ => h, fun z => Bool.noConfusion z⟩
theorem br.f {A B : Prop} (h : B) : br false A B := ⟨fun z => Bool.noConfusion z, fun _ => h⟩
def tV (i : Nat) : TE := fun σ H Q => match σ[i]? with | some (some v) => Q v H | _ => False
theorem tV_of {i : Nat} {σ : St} {H : Hp} {Q : VK} (h : tV i σ H Q) : tVar i σ H Q := by
  unfold tV at h
  split at h
  · rename_i v e; exact ⟨v, e, h⟩
  · exact h.elim
def tTst (t : TE) : TT := fun σ H Q => t σ H fun x H1 => match x with | .bl k => Q k H1 | _ => False
def tAndC (t u : TT) : TT := fun σ H Q => t σ H fun c H1 => br c (u σ H1 Q) (Q false H1)
def tOrC (t u : TT) : TT := fun σ H Q => t σ H fun c H1 => br c (Q true H1) (u σ H1 Q)
def tIfC (t : TT) (ta tb : TE) : TE := fun σ H Q => t σ H fun c H1 => br c (ta σ H1 Q) (tb σ H1 Q)
def tIfSC (c : TT) (t u : TS) : TS := fun D σ H => c σ H fun b H1 => br b (t D σ H1) (u D σ H1)
def tAndVC (ta tb : TE) : TE := fun σ H Q => ta σ H fun x H1 => match x with | .bl c => br c (tb σ H1 Q) (Q (.bl false) H1) | _ => False
def tOrVC (ta tb : TE) : TE := fun σ H Q => ta σ H fun x H1 => match x with | .bl c => br c (Q (.bl true) H1) (tb σ H1 Q) | _ => False
def tNotVC (ta : TT) : TE := fun σ H Q => ta σ H fun c H1 => Q (.bl (!c)) H1
/-- a test's answers are joined: what is known of them stands in P -/
def tJn (t : TT) : TT := fun σ H Q => ∃ P : Bool → Hp → Prop, t σ H P ∧ ∀ b H', P b H' → Q b H'
/-- a statement's ends are joined -/
def tCt (t : TS) : TS := fun D σ H => ∃ P : St → Hp → Prop, t { D with nx := P } σ H ∧ ∀ σ' H', P σ' H' → D.nx σ' H'
section
variable {X : Cx} {e a b c : Expr} {rest : List Expr} {te ta tb : TE} {tA tB : TT} {pos : Pos}
theorem cv (i : Nat) {x : Str} {pos : Pos} (hN : X.N[i]? = some x := by rfl) (hv : Vis X.env.scope x := by first | exact Or.inl rfl | exact Or.inr (Or.inl rfl) | exact Or.inr (Or.inr rfl)) (hd : (x == ("__debug__" : Str)) = false := by decide)
    (hcd : (x == ("__classdict__" : Str)) = false := by decide) : PE X (.Name x pos) (tV i) := (pe_var hN hv hd hcd).weak fun _ _ _ h => tV_of h
theorem run_bl {pins : List (Addr × Obj)} {s : Shared} {σ : St} {H : Hp} {Q : Bool → Hp → Prop} {t : Sem Value} (h : wpAny (model X.prog X.w) X.A t (EP X pins σ (fun x H1 => match x with | .bl k => Q k H1 | _ => False)) X.xe s) :
    wpAny (model X.prog X.w) X.A t (EP X pins σ (fun x H1 => ∃ k, x = .bl k ∧ Q k H1)) X.xe s := by
  refine thn h fun v s1 hv => ?_
  obtain ⟨x, H1, I1, r1, q1⟩ := hv
  cases x with
  | bl k => exact ⟨_, H1, I1, r1, k, rfl, q1⟩
  | _ => exact q1.elim
theorem PE.bl (h : PE X e te) : PE X e (fun σ H Q => te σ H fun x H1 => match x with | .bl k => Q (.bl k) H1 | _ => False) := ⟨fun pins s σ H Q I q => by
  refine thn (h.run pins s σ H _ I q) fun v s1 hv => ?_
  obtain ⟨x, H1, I1, r1, q1⟩ := hv
  cases x with
  | bl k => exact ⟨_, H1, I1, r1, q1⟩
  | _ => exact q1.elim⟩
theorem ct_val (h : PE X e te) (he : ∀ whole, isTrue e X.env whole = (do let v ← whole; standAt e.pos; holding [v] (truthy v)) := by intro _; rfl) : PT X e (tTst te) := ⟨fun pins s σ H Q I q => by
  have h2 : PE X e (fun σ H Q => te σ H fun x H1 => match x with | .bl k => Q (.bl k) H1 | _ => False) := h.bl
  have h3 := pt_val h2 he
  exact h3.run pins s σ H Q I (by
    show te σ H _
    have q' : te σ H fun x H1 => match x with | .bl k => Q k H1 | _ => False := q
    have eq : (fun x H1 => match x with | .bl k => Q k H1 | _ => False) = (fun (x : V) (H1 : Hp) => match x with | .bl k => (fun (x : V) (H' : Hp) => ∃ k, x = .bl k ∧ Q k H') (.bl k) H1 | _ => False) := by
      funext x H1
      cases x with
      | bl k => exact propext ⟨fun q => ⟨k, rfl, q⟩, fun ⟨k', e, q⟩ => by cases e; exact q⟩
      | _ => rfl
    rw [eq] at q'
    exact q')⟩
theorem OpR.bl {f : Value → Value → Sem Value} {r : R2} (h : OpR X f r) : OpR X f (fun x y H Q => r x y H fun z H1 => match z with | .bl k => Q (.bl k) H1 | _ => False) := fun pins s σ H x y v u Q I rx ry q => by
  refine thn (h pins s σ H x y v u _ I rx ry q) fun v s1 hv => ?_
  obtain ⟨x, H1, I1, r1, q1⟩ := hv
  cases x with
  | bl k => exact ⟨_, H1, I1, r1, q1⟩
  | _ => exact q1.elim
theorem ct_cmp {op : CmpOp} {r : R2} (ho : OpR X (compareOp op) r) (ha : PE X a ta) (hb : PE X b tb) (hm : behindInMarks op b = false) : PT X (.Compare a [op] [b] pos) (tTst (tOp r ta tb)) :=
  (pt_cmpR ho.bl ha hb hm).weak fun σ H Q h => by
    have eq : (fun (x : V) (H1 : Hp) => match x with | .bl k => Q k H1 | _ => False) = (fun (x : V) (H1 : Hp) => match x with | .bl k => (fun (x : V) (H' : Hp) => ∃ k, x = .bl k ∧ Q k H') (.bl k) H1 | _ => False) := by
      funext x H1
      cases x with
      | bl k => exact propext ⟨fun q => ⟨k, rfl, q⟩, fun ⟨k', e, q⟩ => by cases e; exact q⟩
      | _ => rfl
    have h' : ta σ H fun x H1 => tb σ H1 fun y H2 => r x y H2 fun (x : V) (H1 : Hp) => match x with | .bl k => Q k H1 | _ => False := h
    rw [eq] at h'
    exact h'
theorem run_br {t : TT} {e : Expr} (h : PT X e t) {pins : List (Addr × Obj)} {s : Shared} {σ : St} {H : Hp} {A B : Hp → Prop} (I : Inv X pins σ H s) (q : t σ H fun c H1 => br c (A H1) (B H1)) :
    wpAny (model X.prog X.w) X.A (isTrue e X.env (eval e X.env)) (TP X pins σ fun c H1 => if c = true then A H1 else B H1) X.xe s :=
  thn (h.run pins s σ H _ I q) fun c s1 ⟨H1, I1, q1⟩ => ⟨H1, I1, q1.ite⟩
/-- the branch of a test as br -/
theorem PT.br2 (h : PT X e tA) : PT X e (fun σ H Q => tA σ H fun c H1 => L2.br c (Q true H1) (Q false H1)) := ⟨fun pins s σ H Q I q => by
  refine thn (h.run pins s σ H _ I q) fun c s1 ⟨H1, I1, q1⟩ => ⟨H1, I1, ?_⟩
  cases c with
  | true => exact q1.1 rfl
  | false => exact q1.2 rfl⟩
theorem br_if {c : Bool} {A B : Prop} : (if c = true then A else B) = br c A B := by
  cases c with
  | true => rw [if_pos rfl]; exact propext ⟨fun h => .t h, fun h => h.1 rfl⟩
  | false => rw [if_neg Bool.false_ne_true]; exact propext ⟨fun h => .f h, fun h => h.2 rfl⟩
theorem tAnd_eq (t u : TT) : tAnd t u = tAndC t u := by funext σ H Q; unfold tAnd tAndC; congr 1; funext c H1; exact br_if
theorem tOr_eq (t u : TT) : tOr t u = tOrC t u := by funext σ H Q; unfold tOr tOrC; congr 1; funext c H1; exact br_if
theorem tIf_eq (t : TT) (u v : TE) : tIf t u v = tIfC t u v := by funext σ H Q; unfold tIf tIfC; congr 1; funext c H1; exact br_if
theorem tIfS_eq (t : TT) (u v : TS) : tIfS t u v = tIfSC t u v := by funext D σ H; unfold tIfS tIfSC; congr 1; funext c H1; exact br_if
theorem cw_and (ha : PT X a tA) (hb : PW X (.BoolOp .And (b :: rest) pos) tB) : PW X (.BoolOp .And (a :: b :: rest) pos) (tAndC tA tB) := by rw [← tAnd_eq]; exact pw_and ha hb
theorem cw_or (ha : PT X a tA) (hb : PW X (.BoolOp .Or (b :: rest) pos) tB) : PW X (.BoolOp .Or (a :: b :: rest) pos) (tOrC tA tB) := by rw [← tOr_eq]; exact pw_or ha hb
theorem ce_if {c : Expr} (hc : PT X c tA) (ha : PE X a ta) (hb : PE X b tb) : PE X (.IfExp c a b pos) (tIfC tA ta tb) := by rw [← tIf_eq]; exact pe_ifExp hc ha hb
theorem cs_if {c : Expr} {a b : List Stmt} {tc : TT} {t u : TS} (hc : PT X c tc) (ha : PSs X a t) (hb : PSs X b u) : PS X (.If c a b pos) (tIfSC tc t u) := by rw [← tIfS_eq]; exact ps_if hc ha hb
theorem bl_eq {te : TE} {σ : St} {H : Hp} {f : Bool → Hp → Prop} : (te σ H fun x H1 => match x with | .bl c => f c H1 | _ => False) → (fun σ H (Q : VK) => te σ H fun x H1 => match x with | .bl k => Q (.bl k) H1 | _ => False) σ H fun x H1 => ∃ c, x = .bl c ∧ f c H1 := by
  intro h
  show te σ H _
  have eq : (fun (x : V) (H1 : Hp) => match x with | .bl c => f c H1 | _ => False) = (fun (x : V) (H1 : Hp) => match x with | .bl k => (fun (x : V) (H' : Hp) => ∃ k, x = .bl k ∧ f k H') (.bl k) H1 | _ => False) := by
    funext x H1
    cases x with
    | bl k => exact propext ⟨fun q => ⟨k, rfl, q⟩, fun ⟨k', e, q⟩ => by cases e; exact q⟩
    | _ => rfl
  rw [eq] at h
  exact h
theorem ce_and (ha : PE X a ta) (hb : PE X (.BoolOp .And (b :: rest) pos) tb) : PE X (.BoolOp .And (a :: b :: rest) pos) (tAndVC ta tb) :=
  (pe_and ha.bl hb).weak fun σ H Q h => bl_eq (f := fun c H1 => if c = true then tb σ H1 Q else Q (.bl false) H1) (by
    have h' : ta σ H fun x H1 => match x with | .bl c => br c (tb σ H1 Q) (Q (.bl false) H1) | _ => False := h
    have eq : (fun (x : V) (H1 : Hp) => match x with | .bl c => br c (tb σ H1 Q) (Q (.bl false) H1) | _ => False) = (fun (x : V) (H1 : Hp) => match x with | .bl c => if c = true then tb σ H1 Q else Q (.bl false) H1 | _ => False) := by
      funext x H1
      cases x with
      | bl k => exact br_if.symm
      | _ => rfl
    rw [eq] at h'
    exact h')
theorem ce_or (ha : PE X a ta) (hb : PE X (.BoolOp .Or (b :: rest) pos) tb) : PE X (.BoolOp .Or (a :: b :: rest) pos) (tOrVC ta tb) :=
  (pe_or ha.bl hb).weak fun σ H Q h => bl_eq (f := fun c H1 => if c = true then Q (.bl true) H1 else tb σ H1 Q) (by
    have h' : ta σ H fun x H1 => match x with | .bl c => br c (Q (.bl true) H1) (tb σ H1 Q) | _ => False := h
    have eq : (fun (x : V) (H1 : Hp) => match x with | .bl c => br c (Q (.bl true) H1) (tb σ H1 Q) | _ => False) = (fun (x : V) (H1 : Hp) => match x with | .bl c => if c = true then Q (.bl true) H1 else tb σ H1 Q | _ => False) := by
      funext x H1
      cases x with
      | bl k => exact br_if.symm
      | _ => rfl
    rw [eq] at h'
    exact h')
theorem PT.join (h : PT X e tA) : PT X e (tJn tA) := ⟨fun pins s σ H Q I ⟨P, h1, h2⟩ => thn (h.run pins s σ H P I h1) fun b s1 ⟨H1, I1, q1⟩ => ⟨H1, I1, h2 b H1 q1⟩⟩
theorem PS.cut {st : Stmt} {t : TS} (h : PS X st t) : PS X st (tCt t) := ⟨fun pins s σ H D I ⟨P, h1, h2⟩ => thn (h.run pins s σ H _ I h1) fun f s1 q => by
  cases f with
  | next => obtain ⟨σ', H', I', q'⟩ := q; exact ⟨σ', H', I', h2 σ' H' q'⟩
  | brk => exact q
  | cont => exact q
  | ret u => exact q⟩
end

/-! ### == of flat lists -/
/-- two lists of flat values, item by item -/
def eqVs : List V → List V → Bool
  | [], [] => true
  | x :: xs, y :: ys => eqV x y && eqVs xs ys
  | _, _ => false
theorem eqVs_len : ∀ xs ys : List V, eqVs xs ys = true → xs.length = ys.length
  | [], [], _ => rfl
  | x :: xs, y :: ys, h => by
    rw [eqVs, Bool.and_eq_true] at h
    rw [List.length_cons, List.length_cons, eqVs_len xs ys h.2]
  | [], y :: ys, h => by simp [eqVs] at h
  | x :: xs, [], h => by simp [eqVs] at h
theorem eqVs_all : ∀ xs ys : List V, xs.length = ys.length → eqVs xs ys = (List.range xs.length).all fun j => eqV (xs.getD j .non) (ys.getD j .non)
  | [], [], _ => rfl
  | x :: xs, y :: ys, h => by
    rw [eqVs, eqVs_all xs ys (by simpa using h), List.length_cons, List.range_succ_eq_map, List.all_cons, List.all_map]
    rfl
  | [], y :: ys, h => by simp at h
  | x :: xs, [], h => by simp at h
theorem eqVs_strs : ∀ xs ys : List Str, eqVs (xs.map V.str) (ys.map V.str) = decide (xs = ys)
  | [], [] => rfl
  | [], y :: ys => by simp [eqVs]
  | x :: xs, [] => by simp [eqVs]
  | x :: xs, y :: ys => by
    rw [List.map_cons, List.map_cons, eqVs, eqVs_strs xs ys]
    show (x == y && _) = _
    by_cases h : x = y <;> by_cases g : xs = ys <;> simp [h, g]
theorem eqVs_ints : ∀ xs ys : List Int, eqVs (xs.map V.int) (ys.map V.int) = decide (xs = ys)
  | [], [] => rfl
  | [], y :: ys => by simp [eqVs]
  | x :: xs, [] => by simp [eqVs]
  | x :: xs, y :: ys => by
    rw [List.map_cons, List.map_cons, eqVs, eqVs_ints xs ys]
    show (x == y && _) = _
    by_cases h : x = y <;> by_cases g : xs = ys <;> simp [h, g]
theorem eqVs_bls : ∀ xs ys : List Bool, eqVs (xs.map V.bl) (ys.map V.bl) = decide (xs = ys)
  | [], [] => rfl
  | [], y :: ys => by simp [eqVs]
  | x :: xs, [] => by simp [eqVs]
  | x :: xs, y :: ys => by
    rw [List.map_cons, List.map_cons, eqVs, eqVs_bls xs ys]
    show (x == y && _) = _
    by_cases h : x = y <;> by_cases g : xs = ys <;> simp [h, g]
/-- two lists, two tuples, of flat values -/
def SqP (K : PySem.W.Frag) (H : Hp) (a b : Addr) (xs ys : List V) : Prop := (SqL K H a xs ∧ SqL K H b ys) ∨ (SqT K H a xs ∧ SqT K H b ys)
def rEqF (K : PySem.W.Frag) : R2 := fun x y H Q => ∃ a b xs ys, x = .ref a ∧ y = .ref b ∧ SqP K H a b xs ys ∧ xs.all flatV = true ∧ ys.all flatV = true ∧ Q (.bl (eqVs xs ys)) H
def rNeF (K : PySem.W.Frag) : R2 := fun x y H Q => ∃ a b xs ys, x = .ref a ∧ y = .ref b ∧ SqP K H a b xs ys ∧ xs.all flatV = true ∧ ys.all flatV = true ∧ Q (.bl (!eqVs xs ys)) H
section
variable {X : Cx} {pins : List (Addr × Obj)} {s : Shared} {σ : St} {H : Hp}
theorem flatq_at {A : Around} {xs ys : List V} {its its2 : List Value} (r1 : Vals xs its) (r2 : Vals ys its2) (f1 : xs.all flatV = true) (f2 : ys.all flatV = true) (j : Nat) (h1 : j < its.toArray.size) (h2 : j < its2.toArray.size) :
    SeqAt.EqAt A s its.toArray[j] its2.toArray[j] (eqV (xs.getD j .non) (ys.getD j .non)) := by
  have e1 := r1.length
  have e2 := r2.length
  have h1' : j < xs.length := by rw [e1]; simpa using h1
  have h2' : j < ys.length := by rw [e2]; simpa using h2
  obtain ⟨u, hu, ru⟩ := r1.get (List.getElem?_eq_getElem h1')
  obtain ⟨v, hv, rv⟩ := r2.get (List.getElem?_eq_getElem h2')
  have g1 : its.toArray[j] = u := by
    have := List.getElem?_eq_getElem (show j < its.length by simpa using h1)
    rw [this] at hu
    simpa using hu
  have g2 : its2.toArray[j] = v := by
    have := List.getElem?_eq_getElem (show j < its2.length by simpa using h2)
    rw [this] at hv
    simpa using hv
  have q1 : xs.getD j .non = xs[j] := by simp [h1']
  have q2 : ys.getD j .non = ys[j] := by simp [h2']
  rw [g1, g2, q1, q2]
  exact eqAt_V ru rv (List.all_eq_true.mp f1 _ (List.getElem_mem h1')) (List.all_eq_true.mp f2 _ (List.getElem_mem h2'))
theorem eqVs_ne {xs ys : List V} (h : xs.length ≠ ys.length) : eqVs xs ys = false := by
  cases e : eqVs xs ys with
  | false => rfl
  | true => exact absurd (eqVs_len _ _ e) h
theorem min_all {e : Nat → Bool} {m n : Nat} (h : m = n) : ((List.range (min m n)).all e && m == n) = (List.range m).all e := by subst h; simp
theorem op_eqF (hu : X.A.units < cLine) : OpR X (compareOp .Eq) (rEqF X.K) := by
  intro pins s σ H x y v u Q I rx ry h
  obtain ⟨a, b, xs, ys, rfl, rfl, hs, f1, f2, q⟩ := h
  cases rx
  cases ry
  rcases hs with ⟨h1, h2⟩ | ⟨h1, h2⟩
  · obtain ⟨its, r1, p1, z1⟩ := I.list h1
    obtain ⟨its2, r2, p2, z2⟩ := I.list h2
    by_cases hl : xs.length = ys.length
    · have hsz : its.toArray.size = its2.toArray.size := by rw [List.size_toArray, List.size_toArray, ← r1.length, ← r2.length, hl]
      refine SeqAt.eq_listAt p1.isList p2.isList hsz hu (fun j a b => flatq_at r1 r2 f1 f2 j a b) ⟨.bl (eqVs xs ys), H, I, ?_, q⟩
      rw [eqVs_all _ _ hl, r1.length, List.size_toArray]; rfl
    · refine SeqAt.eq_list_lengthsAt p1.isList p2.isList ?_ hu ⟨.bl (eqVs xs ys), H, I, ?_, q⟩
      · simp only [List.size_toArray, ← r1.length, ← r2.length]; simpa using hl
      · rw [eqVs_ne hl]; rfl
  · obtain ⟨its, r1, p1, z1⟩ := I.tuple h1
    obtain ⟨its2, r2, p2, z2⟩ := I.tuple h2
    refine SeqAt.eq_tupleAt (show s.heap.IsTuple a its.toArray from p1) (show s.heap.IsTuple b its2.toArray from p2) hu (fun j a b => flatq_at r1 r2 f1 f2 j a b) ⟨.bl (eqVs xs ys), H, I, ?_, q⟩
    by_cases hl : xs.length = ys.length
    · have hsz : its.toArray.size = its2.toArray.size := by rw [List.size_toArray, List.size_toArray, ← r1.length, ← r2.length, hl]
      rw [min_all hsz, eqVs_all _ _ hl, r1.length, List.size_toArray]; rfl
    · rw [eqVs_ne hl]
      have : (its.toArray.size == its2.toArray.size) = false := by simp only [List.size_toArray, ← r1.length, ← r2.length]; simpa using hl
      rw [this, Bool.and_false]; rfl
theorem op_neF (hu : X.A.units < cLine) : OpR X (compareOp .NotEq) (rNeF X.K) := by
  intro pins s σ H x y v u Q I rx ry h
  obtain ⟨a, b, xs, ys, rfl, rfl, hs, f1, f2, q⟩ := h
  cases rx
  cases ry
  show wpAny (model X.prog X.w) X.A (richCompare .NotEq _ _) _ _ _
  rcases hs with ⟨h1, h2⟩ | ⟨h1, h2⟩
  · obtain ⟨its, r1, p1, z1⟩ := I.list h1
    obtain ⟨its2, r2, p2, z2⟩ := I.list h2
    by_cases hl : xs.length = ys.length
    · have hsz : its.toArray.size = its2.toArray.size := by rw [List.size_toArray, List.size_toArray, ← r1.length, ← r2.length, hl]
      refine SeqAt.RcNeAt.lists p1.isList p2.isList hsz hu (fun j a b => flatq_at r1 r2 f1 f2 j a b) _ _ _ _ ⟨.bl (!eqVs xs ys), H, I, ?_, q⟩
      rw [eqVs_all _ _ hl, r1.length, List.size_toArray]; rfl
    · refine SeqAt.RcNeAt.lists_lengths p1.isList p2.isList ?_ hu _ _ _ _ ⟨.bl (!eqVs xs ys), H, I, ?_, q⟩
      · simp only [List.size_toArray, ← r1.length, ← r2.length]; simpa using hl
      · rw [eqVs_ne hl]; rfl
  · obtain ⟨its, r1, p1, z1⟩ := I.tuple h1
    obtain ⟨its2, r2, p2, z2⟩ := I.tuple h2
    refine SeqAt.RcNeAt.tuples (show s.heap.IsTuple a its.toArray from p1) (show s.heap.IsTuple b its2.toArray from p2) hu (fun j a b => flatq_at r1 r2 f1 f2 j a b) _ _ _ _ ⟨.bl (!eqVs xs ys), H, I, ?_, q⟩
    by_cases hl : xs.length = ys.length
    · have hsz : its.toArray.size = its2.toArray.size := by rw [List.size_toArray, List.size_toArray, ← r1.length, ← r2.length, hl]
      rw [min_all hsz, eqVs_all _ _ hl, r1.length, List.size_toArray]; rfl
    · rw [eqVs_ne hl]
      have : (its.toArray.size == its2.toArray.size) = false := by simp only [List.size_toArray, ← r1.length, ← r2.length]; simpa using hl
      rw [this, Bool.and_false]; rfl
end
theorem flatV_strs (xs : List Str) : (xs.map V.str).all flatV = true := by simp [flatV]
theorem flatV_ints (xs : List Int) : (xs.map V.int).all flatV = true := by simp [flatV]
theorem flatV_bls (xs : List Bool) : (xs.map V.bl).all flatV = true := by simp [flatV]
theorem rEq_strs {K : PySem.W.Frag} {H : Hp} {a b : Addr} {xs ys : List Str} {Q : VK} (h : SqP K H a b (xs.map V.str) (ys.map V.str)) (q : Q (.bl (decide (xs = ys))) H) : rEqF K (.ref a) (.ref b) H Q :=
  ⟨a, b, _, _, rfl, rfl, h, flatV_strs xs, flatV_strs ys, by rw [eqVs_strs]; exact q⟩
theorem rNe_strs {K : PySem.W.Frag} {H : Hp} {a b : Addr} {xs ys : List Str} {Q : VK} (h : SqP K H a b (xs.map V.str) (ys.map V.str)) (q : Q (.bl (!decide (xs = ys))) H) : rNeF K (.ref a) (.ref b) H Q :=
  ⟨a, b, _, _, rfl, rfl, h, flatV_strs xs, flatV_strs ys, by rw [eqVs_strs]; exact q⟩
theorem rNe_ints {K : PySem.W.Frag} {H : Hp} {a b : Addr} {xs ys : List Int} {Q : VK} (h : SqP K H a b (xs.map V.int) (ys.map V.int)) (q : Q (.bl (!decide (xs = ys))) H) : rNeF K (.ref a) (.ref b) H Q :=
  ⟨a, b, _, _, rfl, rfl, h, flatV_ints xs, flatV_ints ys, by rw [eqVs_ints]; exact q⟩
theorem rNe_bls {K : PySem.W.Frag} {H : Hp} {a b : Addr} {xs ys : List Bool} {Q : VK} (h : SqP K H a b (xs.map V.bl) (ys.map V.bl)) (q : Q (.bl (!decide (xs = ys))) H) : rNeF K (.ref a) (.ref b) H Q :=
  ⟨a, b, _, _, rfl, rfl, h, flatV_bls xs, flatV_bls ys, by rw [eqVs_bls]; exact q⟩

/-! ### operators -/
def rAddC (K : PySem.W.Frag) : R2 := fun x y H Q => match x, y with
  | .int i, .int j => Q (.int (i + j)) H
  | .str i, .str j => i.length + j.length ≤ sizeLine ∧ Q (.str (i ++ j)) H
  | .ref l, .ref b => (∃ xs zs, H l = some (.lst xs) ∧ H b = some (.lst zs) ∧ xs.length + zs.length ≤ sizeLine ∧ ∀ p, H p = none → Q (.ref p) (upd H p (.lst (xs ++ zs)))) ∨ rCatT K (.ref l) (.ref b) H Q
  | _, _ => False
def rMulC : R2 := fun x y H Q => match x, y with
  | .int i, .int j => CMul i j ∧ Q (.int (i * j)) H
  | .ref l, .int k => rRep (.ref l) (.int k) H Q
  | _, _ => False
def rIC (C : Int → Int → Prop) (g : Int → Int → V) : R2 := fun x y H Q => match x, y with
  | .int i, .int j => C i j ∧ Q (g i j) H
  | _, _ => False
def rI0C (g : Int → Int → V) : R2 := fun x y H Q => match x, y with
  | .int i, .int j => Q (g i j) H
  | _, _ => False
def rCmpC (g : Int → Int → Bool) (h : Str → Str → Bool) : R2 := fun x y H Q => match x, y with
  | .int i, .int j => Q (.bl (g i j)) H
  | .str i, .str j => Q (.bl (h i j)) H
  | _, _ => False
def rEqC (K : PySem.W.Frag) : R2 := fun x y H Q => match x, y with
  | .int i, .int j => Q (.bl (decide (i = j))) H
  | .str i, .str j => Q (.bl (decide (i = j))) H
  | .bl i, .bl j => Q (.bl (decide (i = j))) H
  | .ref a, .ref b => rEqF K (.ref a) (.ref b) H Q ∨ rEqD K (.ref a) (.ref b) H Q
  | x, y => scal x y = true ∧ Q (.bl (decide (x = y))) H
def rNeC (K : PySem.W.Frag) : R2 := fun x y H Q => match x, y with
  | .int i, .int j => Q (.bl (!decide (i = j))) H
  | .str i, .str j => Q (.bl (!decide (i = j))) H
  | .bl i, .bl j => Q (.bl (!decide (i = j))) H
  | .ref a, .ref b => rNeF K (.ref a) (.ref b) H Q ∨ rNeD K (.ref a) (.ref b) H Q
  | x, y => scal x y = true ∧ Q (.bl (!decide (x = y))) H
def rIxC (K : PySem.W.Frag) : R2 := fun x y H Q => match x, y with
  | .ref p, .int i => ∃ xs v, (SqL K H p xs ∨ SqT K H p xs) ∧ atI xs i = some v ∧ Q v H
  | .str z, .int i => ∃ c, z.length ≤ sizeLine ∧ atI z.cps.toList i = some c ∧ Q (.str ⟨#[c]⟩) H
  | _, _ => False
def rSetC : TSet := fun o i v H Q => match o, i with
  | .ref p, .int k => ∃ xs j, H p = some (.lst xs) ∧ ixN xs.length k = some j ∧ Q (upd H p (.lst (xs.set j v)))
  | _, _ => False
def rUC (g : Int → V) : V → Hp → VK → Prop := fun x H Q => match x with
  | .int i => Q (g i) H
  | _ => False
theorem dV_int {i j : Int} : decide (V.int i = V.int j) = decide (i = j) := by by_cases h : i = j <;> simp [h]
theorem dV_str {i j : Str} : decide (V.str i = V.str j) = decide (i = j) := by by_cases h : i = j <;> simp [h]
theorem dV_bl {i j : Bool} : decide (V.bl i = V.bl j) = decide (i = j) := by by_cases h : i = j <;> simp [h]
section
variable {X : Cx}
theorem oc_add {K : PySem.W.Frag} (hK : X.K = K := by rfl) : OpR X (binaryOp .Add) (rAddC K) := hK ▸ (op_add.or (op_add_str.or (op_cat.or op_catT))).weak fun x y H Q h => by
  cases x <;> cases y <;> first | exact False.elim h | skip
  · exact .inl ⟨_, _, rfl, rfl, h⟩
  · exact .inr (.inl ⟨_, _, rfl, rfl, h⟩)
  · rcases h with ⟨xs, zs, h⟩ | h
    · exact .inr (.inr (.inl ⟨_, _, xs, zs, rfl, rfl, h⟩))
    · exact .inr (.inr (.inr h))
theorem oc_mul : OpR X (binaryOp .Mult) rMulC := (op_mul.or op_rep).weak fun x y H Q h => by
  cases x <;> cases y <;> first | exact False.elim h | skip
  · exact .inl ⟨_, _, rfl, rfl, h⟩
  · exact .inr h
theorem OpR.int {f : Value → Value → Sem Value} {C : Int → Int → Prop} {g : Int → Int → V} (h : OpR X f (rI C g)) : OpR X f (rIC C g) := h.weak fun x y H Q h => by
  cases x <;> cases y <;> first | exact False.elim h | exact ⟨_, _, rfl, rfl, h⟩
theorem OpR.int0 {f : Value → Value → Sem Value} {g : Int → Int → V} (h : OpR X f (rI0 g)) : OpR X f (rI0C g) := h.weak fun x y H Q h => by
  cases x <;> cases y <;> first | exact False.elim h | exact ⟨_, _, rfl, rfl, h⟩
theorem oc_sub : OpR X (binaryOp .Sub) (rI0C fun i j => .int (i - j)) := op_sub.int0
theorem oc_div : OpR X (binaryOp .FloorDiv) (rIC CDivW fun i j => .int (i / j)) := op_fdivW.int
theorem oc_mod : OpR X (binaryOp .Mod) (rIC (fun _ j => 0 < j) fun i j => .int (i % j)) := op_mod.int
theorem oc_pow : OpR X (binaryOp .Pow) (rIC CPowW fun i j => .int (i ^ j.toNat)) := OpR.int (opI fun _ _ _ _ _ _ _ hc q => pow_int hc.1 hc.2 q)
theorem OpR.cmp {f : Value → Value → Sem Value} {g : Int → Int → Bool} {k : Str → Str → Bool} (h : OpR X f (rI0 fun i j => .bl (g i j))) (h' : OpR X f (fun x y H Q => ∃ i j, x = .str i ∧ y = .str j ∧ Q (.bl (k i j)) H)) : OpR X f (rCmpC g k) := (h.or h').weak fun x y H Q h => by
  cases x <;> cases y <;> first | exact False.elim h | exact .inl ⟨_, _, rfl, rfl, h⟩ | exact .inr ⟨_, _, rfl, rfl, h⟩
theorem oc_lt : OpR X (compareOp .Lt) (rCmpC (fun i j => decide (i < j)) fun i j => decide (i.cps.toList < j.cps.toList)) := op_lt.cmp op_lt_str
theorem oc_le : OpR X (compareOp .LtE) (rCmpC (fun i j => decide (i ≤ j)) fun i j => !decide (j.cps.toList < i.cps.toList)) := op_le.cmp op_le_str
theorem oc_gt : OpR X (compareOp .Gt) (rCmpC (fun i j => decide (j < i)) fun i j => decide (j.cps.toList < i.cps.toList)) := op_gt.cmp op_gt_str
theorem oc_ge : OpR X (compareOp .GtE) (rCmpC (fun i j => decide (j ≤ i)) fun i j => !decide (i.cps.toList < j.cps.toList)) := op_ge.cmp op_ge_str
theorem oc_eq {K : PySem.W.Frag} (hu : X.A.units + 64 < cLine) (hK : X.K = K := by rfl) : OpR X (compareOp .Eq) (rEqC K) := hK ▸ (op_eq.or ((op_eqF (by omega)).or (op_eqD hu))).weak fun x y H Q h => by
  cases x <;> cases y <;> first | exact .inl h | exact .inr h | exact .inl ⟨rfl, by rw [dV_int]; exact h⟩ | exact .inl ⟨rfl, by rw [dV_str]; exact h⟩ | exact .inl ⟨rfl, by rw [dV_bl]; exact h⟩
theorem oc_ne {K : PySem.W.Frag} (hu : X.A.units + 64 < cLine) (hK : X.K = K := by rfl) : OpR X (compareOp .NotEq) (rNeC K) := hK ▸ (op_ne.or ((op_neF (by omega)).or (op_neD hu))).weak fun x y H Q h => by
  cases x <;> cases y <;> first | exact .inl h | exact .inr h | exact .inl ⟨rfl, by rw [dV_int]; exact h⟩ | exact .inl ⟨rfl, by rw [dV_str]; exact h⟩ | exact .inl ⟨rfl, by rw [dV_bl]; exact h⟩
theorem ic_seq {K : PySem.W.Frag} (hK : X.K = K := by rfl) : IxR X (rIxC K) := hK ▸ ix_seq.weak fun x y H Q h => by
  cases x <;> cases y <;> first | exact False.elim h | skip
  · obtain ⟨c, h⟩ := h; exact .inr (.inr ⟨_, _, c, rfl, rfl, h⟩)
  · obtain ⟨xs, v, h | h, q⟩ := h
    · exact .inl ⟨_, xs, _, v, rfl, rfl, h, q⟩
    · exact .inr (.inl ⟨_, xs, _, v, rfl, rfl, h, q⟩)
theorem set_c : PSet X rSetC := set_list.weak fun o i v H Q h => by
  cases o <;> cases i <;> first | exact False.elim h | skip
  obtain ⟨xs, j, h⟩ := h
  exact ⟨_, xs, _, j, rfl, rfl, h⟩
theorem uc_neg : UnR X (unaryOp .USub) (rUC fun i => .int (-i)) := fun pins s σ H x u Q I rx h => un_neg pins s σ H x u Q I rx (by
  cases x <;> first | exact False.elim h | exact ⟨_, rfl, h⟩)
end

/-! ### calls of built-ins -/
def rLenC (K : PySem.W.Frag) : List V → Hp → VK → Prop := fun xs H Q => match xs with
  | [.ref p] => ∃ ys, (SqL K H p ys ∨ SqT K H p ys) ∧ Q (.int ys.length) H
  | [.str z] => z.length ≤ sizeLine ∧ Q (.int z.length) H
  | _ => False
def rMaxC : List V → Hp → VK → Prop := fun xs H Q => match xs with
  | [.int i, .int j] => Q (.int (max i j)) H
  | [.int i, .int j, .int k] => Q (.int (max (max i j) k)) H
  | _ => False
def rMinC : List V → Hp → VK → Prop := fun xs H Q => match xs with
  | [.int i, .int j] => Q (.int (min i j)) H
  | _ => False
def rTupC (K : PySem.W.Frag) : List V → Hp → VK → Prop := fun xs H Q => match xs with
  | [.ref p] => ∃ ys, (SqL K H p ys ∧ ∀ l, H l = none → Q (.ref l) (upd H l (.tup ys))) ∨ (SqT K H p ys ∧ Q (.ref p) H)
  | _ => False
def rListC (K : PySem.W.Frag) : List V → Hp → VK → Prop := fun xs H Q => match xs with
  | [.ref p] => ∃ ys, (SqL K H p ys ∨ SqT K H p ys) ∧ ∀ l, H l = none → Q (.ref l) (upd H l (.lst ys))
  | _ => False
def rStrC : List V → Hp → VK → Prop := fun xs H Q => match xs with
  | [.int i] => i.natAbs.log2 < 1920 ∧ Q (.str (toString i)) H
  | _ => False
section
variable {X : Cx}
theorem cc_len {K : PySem.W.Frag} (hK : X.K = K := by rfl) : CallR X (.builtin "len") (rLenC K) := hK ▸ (call_len_seq.or call_len_str).weak fun xs H Q h => by
  unfold rLenC at h
  split at h
  · obtain ⟨ys, h⟩ := h; exact .inl ⟨_, ys, rfl, h⟩
  · exact .inr ⟨_, rfl, h⟩
  · exact h.elim
theorem max_if (i j : Int) : (if j > i then j else i) = max i j := by omega
theorem min_if (i j : Int) : (if j < i then j else i) = min i j := by omega
theorem nuMax2_int (i j : Int) : nuMax2 (.int i) (.int j) = some (.int (max i j)) := by
  show some (if decide (i < j) = true then V.int j else V.int i) = _
  by_cases h : i < j
  · rw [if_pos (decide_eq_true h), show max i j = j by omega]
  · rw [if_neg (by simpa using h), show max i j = i by omega]
theorem cc_max (hc : X.calm = true) : CallR X (.builtin "max") rMaxC := ((call_max2 hc).or (call_max3Nu hc)).weak fun xs H Q h => by
  unfold rMaxC at h
  split at h
  · rename_i i j; exact .inl ⟨i, j, rfl, by rw [max_if]; exact h⟩
  · rename_i i j k
    refine .inr ⟨_, _, _, _, rfl, ?_, h⟩
    show (nuMax2 (.int i) (.int j)).bind _ = _
    rw [nuMax2_int, Option.bind_some, nuMax2_int]
  · exact h.elim
theorem cc_min (hc : X.calm = true) : CallR X (.builtin "min") rMinC := (call_min2 hc).weak fun xs H Q h => by
  unfold rMinC at h
  split at h
  · rename_i i j; exact ⟨i, j, rfl, by rw [min_if]; exact h⟩
  · exact h.elim
theorem cc_tuple {K : PySem.W.Frag} (hK : X.K = K := by rfl) : CallR X (.type "tuple") (rTupC K) := hK ▸ call_tuple_of.weak fun xs H Q h => by
  unfold rTupC at h
  split at h
  · obtain ⟨ys, h⟩ := h; exact ⟨_, ys, rfl, h⟩
  · exact h.elim
theorem cc_list {K : PySem.W.Frag} (hK : X.K = K := by rfl) : CallR X (.type "list") (rListC K) := hK ▸ call_list_of.weak fun xs H Q h => by
  unfold rListC at h
  split at h
  · obtain ⟨ys, h⟩ := h; exact ⟨_, ys, rfl, h⟩
  · exact h.elim
theorem cc_str : CallR X (.type "str") rStrC := call_str_int.weak fun xs H Q h => by
  unfold rStrC at h
  split at h
  · exact ⟨_, rfl, h⟩
  · exact h.elim
theorem cc_repr : CallR X (.builtin "repr") rStrC := SkE.call_repr_int.weak fun xs H Q h => by
  unfold rStrC at h
  split at h
  · exact ⟨_, rfl, h⟩
  · exact h.elim
end

/-! ### slices -/
def rSlC (K : PySem.W.Frag) : V → Option Int → Option Int → Hp → VK → Prop := fun x lo hi H Q => match x with
  | .ref a => rSlL K (.ref a) lo hi H Q ∨ rSlT K (.ref a) lo hi H Q
  | .str z => rSlS (.str z) lo hi H Q
  | _ => False
def tPartC (t : TE) : TO := fun σ H Q => t σ H fun x H1 => match x with | .int i => Q (some i) H1 | _ => False
section
variable {X : Cx} {e : Expr} {te : TE}
theorem sc_U {K : PySem.W.Frag} (hK : X.K = K := by rfl) : SlR X (rSlC K) := hK ▸ fun pins s σ H x v vl vu lo hi sl Q I rx h1 h2 h3 h => (sl_list.or (sl_tup.or sl_str)) pins s σ H x v vl vu lo hi sl Q I rx h1 h2 h3 (by
  cases x <;> first | exact False.elim h | skip
  · exact .inr (.inr h)
  · exact h.elim (fun h => .inl h) fun h => .inr (.inl h))
theorem poc {e : Expr} {te : TE} (h : PE X e te) : PO X (some e) (tPartC te) := ⟨fun pins s σ H Q I q => (po_some (e := e) (te := fun σ H Q => te σ H fun x H1 => match x with | .int i => Q (.int i) H1 | _ => False) ⟨fun pins s σ H Q I q => by
  refine thn (h.run pins s σ H _ I q) fun v s1 hv => ?_
  obtain ⟨x, H1, I1, r1, q1⟩ := hv
  cases x with
  | int k => exact ⟨_, H1, I1, r1, q1⟩
  | _ => exact q1.elim⟩).run pins s σ H Q I (by
    show te σ H _
    have q' : te σ H fun x H1 => match x with | .int i => Q (some i) H1 | _ => False := q
    have eq : (fun (x : V) (H1 : Hp) => match x with | .int i => Q (some i) H1 | _ => False) = (fun (x : V) (H1 : Hp) => match x with | .int k => (fun (x : V) (H' : Hp) => ∃ k, x = .int k ∧ Q (some k) H') (.int k) H1 | _ => False) := by
      funext x H1
      cases x with
      | int k => exact propext ⟨fun q => ⟨k, rfl, q⟩, fun ⟨k', e, q⟩ => by cases e; exact q⟩
      | _ => rfl
    rw [eq] at q'
    exact q')⟩
end

/-! ### what is walked -/
section
variable {X : Cx} {tg e : Expr} {te : TE}
theorem pic_seq {K : PySem.W.Frag} (h : PE X e te) (hK : X.K = K := by rfl) : PI X tg e (fun σ H R => iList K te σ H R ∨ iTup K te σ H R) := hK ▸ (pi_list h).or (pi_tup h)
theorem pic_rev {K : PySem.W.Frag} {p pos : Pos} (hg : Gl X "reversed") (hm : X.mg "reversed" = none) (he : PE X e te) (hK : X.K = K := by rfl) (hs : starEach [e] X.env = (false, eval e X.env) :: starEach [] X.env := by rfl) : PI X tg (.Call (.Name "reversed" p) [e] [] pos) (RT.iRevA K te) := hK ▸ RT.pi_revA hg hm he hs
end
theorem walk_revT {K : PySem.W.Frag} {a : Addr} {xs : List V} : Walk (RT.ItvT K a xs.length) xs.length (fun H => SqT K H a xs) (fun i H x H' => H' = H ∧ xs[xs.length - 1 - i]? = some x) :=
  ⟨fun i _ hi q => ⟨hi, xs, xs[xs.length - 1 - i]'(by omega), q, by simp [show xs.length - 1 - i < xs.length by omega]⟩, fun _ _ => Nat.le_refl _, fun _ _ _ _ _ q y => ⟨y.1, y.2 xs q⟩⟩

/-! ### methods of lists -/
def rAppC : V → List V → Hp → VK → Prop := fun x vs H Q => match x, vs with
  | .ref l, [y] => ∃ xs, H l = some (.lst xs) ∧ xs.length < sizeLine ∧ Q .non (upd H l (.lst (xs ++ [y])))
  | _, _ => False
def rExtC : V → List V → Hp → VK → Prop := fun x vs H Q => match x, vs with
  | .ref l, [.ref b] => ∃ xs zs, H l = some (.lst xs) ∧ H b = some (.lst zs) ∧ xs.length + zs.length ≤ sizeLine ∧ Q .non (upd H l (.lst (xs ++ zs)))
  | _, _ => False
def rPopC : V → List V → Hp → VK → Prop := fun x vs H Q => match x, vs with
  | .ref l, [.int i] => ∃ (xs : List V) (k : Nat) (y : V), H l = some (.lst xs) ∧ i = (k : Int) ∧ k < 2 ^ 62 ∧ xs[k]? = some y ∧ Q y (upd H l (.lst (xs.eraseIdx k)))
  | .ref l, [] => ∃ (xs : List V) (y : V), H l = some (.lst xs) ∧ xs[xs.length - 1]? = some y ∧ Q y (upd H l (.lst xs.dropLast))
  | _, _ => False
def rRevC : V → List V → Hp → VK → Prop := fun x vs H Q => match x, vs with
  | .ref l, [] => ∃ xs, H l = some (.lst xs) ∧ Q .non (upd H l (.lst xs.reverse))
  | _, _ => False
/-- the receiver is a list that may be read -/
def tLM (K : PySem.W.Frag) (r : V → List V → Hp → VK → Prop) (to : TE) (t : TA) : TE := fun σ H Q => to σ H fun x H1 => match x with
  | .ref l => (∃ xs, SqL K H1 l xs) ∧ t σ H1 fun vs H2 => r (.ref l) vs H2 Q
  | _ => False
section
variable {X : Cx}
theorem mc_append : MtR X "list.append" rAppC := MtR.weak (r := rAppend) mt_append fun x vs H Q h => by
  unfold rAppC at h
  split at h
  · obtain ⟨xs, h⟩ := h; exact ⟨_, xs, _, rfl, rfl, h⟩
  · exact h.elim
theorem mc_extend : MtR X "list.extend" rExtC := MtR.weak (r := rExtend) mt_extend fun x vs H Q h => by
  unfold rExtC at h
  split at h
  · obtain ⟨xs, zs, h⟩ := h; exact ⟨_, _, xs, zs, rfl, rfl, h⟩
  · exact h.elim
theorem seqIndex_nat {k n : Nat} (h : k < n) : seqIndex? (k : Int) n = some k := by
  have := (ixN_seq (n := n) (i := (k : Int)) (j := k) (by unfold ixN; rw [if_pos (by omega), if_pos (by omega)]; simp)).1
  exact this
theorem mc_pop : MtR X "list.pop" rPopC := MtR.weak (MtR.or (r := rPopAt) (r' := rPop) mt_popAt mt_pop) fun x vs H Q h => by
  unfold rPopC at h
  split at h
  · obtain ⟨xs, k, y, h1, rfl, h2, h3, q⟩ := h
    have hk := (List.getElem?_eq_some_iff.mp h3).1
    exact .inl ⟨_, xs, _, k, y, rfl, rfl, h1, by omega, by omega, seqIndex_nat hk, h3, q⟩
  · obtain ⟨xs, y, h⟩ := h; exact .inr ⟨_, xs, y, rfl, rfl, h⟩
  · exact h.elim
theorem mc_reverse : MtR X "list.reverse" rRevC := MtR.weak (r := rReverse) mt_reverse fun x vs H Q h => by
  unfold rRevC at h
  split at h
  · obtain ⟨xs, h⟩ := h; exact ⟨_, xs, rfl, rfl, h⟩
  · exact h.elim
theorem tLM_of {K : PySem.W.Frag} {r : V → List V → Hp → VK → Prop} {to : TE} {t : TA} {σ : St} {H : Hp} {Q : VK} (mono : ∀ P P' : VK, (∀ v H', P v H' → P' v H') → to σ H P → to σ H P') (h : tLM K r to t σ H Q) : tBM K "list" r to t σ H Q :=
  mono _ _ (fun x H' q => by
    cases x with
    | ref l => exact ⟨.inl ⟨rfl, q.1⟩, q.2⟩
    | _ => exact q.elim) h
end

/-! ### heaps -/
/-- all that was tracked, but what stands at a, is as it was -/
def SameB (a : Addr) (H H' : Hp) : Prop := ∀ b o, b ≠ a → H b = some o → H' b = some o
theorem SameB.refl {a : Addr} {H : Hp} : SameB a H H := fun _ _ _ h => h
theorem SameB.trans {a : Addr} {H H1 H2 : Hp} (x : SameB a H H1) (y : SameB a H1 H2) : SameB a H H2 := fun b o n h => y b o n (x b o n h)
theorem SameB.of {a : Addr} {H H' : Hp} (x : Same H H') : SameB a H H' := fun b o _ h => x b o h
theorem SameB.at {a : Addr} {H : Hp} {o : HO} : SameB a H (upd H a o) := fun b u n h => by rw [upd_ne n]; exact h
theorem upd_new {H : Hp} {a b : Addr} {o u : HO} (h : H b = some u) (hn : H a = none) : upd H a o b = some u := by rw [upd_ne (ne_of_none h hn)]; exact h
theorem upd_oth {H : Hp} {a b : Addr} {o u : HO} (hn : b ≠ a) (h : H b = some u) : upd H a o b = some u := by rw [upd_ne hn]; exact h
theorem Same.new {H : Hp} {a : Addr} {o : HO} (hn : H a = none) : Same H (upd H a o) := fun _ _ h => upd_new h hn
theorem SameB.new {a p : Addr} {H : Hp} {o : HO} (hn : H p = none) : SameB a H (upd H p o) := SameB.of (Same.new hn)
/-- a write to what was not there at the start -/
theorem SameB.wr {a p : Addr} {H H1 : Hp} {o : HO} (x : SameB a H H1) (hn : H p = none) : SameB a H (upd H1 p o) := fun b u n h => by
  rw [upd_ne (ne_of_none h hn)]; exact x b u n h
theorem SameB.ws {a : Addr} {H H1 : Hp} {o : HO} (x : SameB a H H1) : SameB a H (upd H1 a o) := fun b u n h => by
  rw [upd_ne n]; exact x b u n h
theorem Same.wr {p : Addr} {H H1 : Hp} {o : HO} (x : Same H H1) (hn : H p = none) : Same H (upd H1 p o) := fun b u h => by
  rw [upd_ne (ne_of_none h hn)]; exact x b u h
theorem SameB.free {a : Addr} {H H' : Hp} (e : SameB a H H') {l : Addr} (n : l ≠ a) (h : H' l = none) : H l = none := by
  cases q : H l with
  | none => rfl
  | some o => rw [e l o n q] at h; cases h
theorem SameB.seq {K : PySem.W.Frag} {s a : Addr} {H H' : Hp} {xs : List V} (e : SameB s H H') (n : a ≠ s) (h : SqL K H a xs) : SqL K H' a xs := by
  rcases h with (h | ⟨o, h⟩) | h
  · exact .inl (.inl (e _ _ n h))
  · exact .inl (.inr ⟨o, e _ _ n h⟩)
  · exact .inr h
theorem SameB.seqT {K : PySem.W.Frag} {s a : Addr} {H H' : Hp} {xs : List V} (e : SameB s H H') (n : a ≠ s) (h : SqT K H a xs) : SqT K H' a xs := by
  rcases h with (h | ⟨o, h⟩) | h
  · exact .inl (.inl (e _ _ n h))
  · exact .inl (.inr ⟨o, e _ _ n h⟩)
  · exact .inr h
theorem Same.seqT {K : PySem.W.Frag} {H H' : Hp} {a : Addr} {xs : List V} (e : Same H H') (h : SqT K H a xs) : SqT K H' a xs := by
  rcases h with (h | ⟨o, h⟩) | h
  · exact .inl (.inl (e _ _ h))
  · exact .inl (.inr ⟨o, e _ _ h⟩)
  · exact .inr h

theorem upd_none {H : Hp} {a p : Addr} {o : HO} (h : upd H a o p = none) : H p = none := by
  by_cases e : p = a
  · subst e; rw [upd_same] at h; cases h
  · rw [upd_ne e] at h; exact h
theorem upd_none_ne {H : Hp} {a p : Addr} {o : HO} (h : upd H a o p = none) : p ≠ a := by
  intro e; subst e; rw [upd_same] at h; cases h
theorem SameB.get {s b : Addr} {H H' : Hp} {o : HO} (e : SameB s H H') (n : b ≠ s) (h : H b = some o) : H' b = some o := e b o n h
theorem Same.get {b : Addr} {H H' : Hp} {o : HO} (e : Same H H') (h : H b = some o) : H' b = some o := e b o h
/-- what was not there, is not the source -/
theorem SameB.free' {a : Addr} {H H' : Hp} {xs : List V} (e : SameB a H H') (ha : H' a = some (.lst xs)) {l : Addr} (h : H' l = none) : H l = none := e.free (ne_of_none ha h).symm h

theorem Same.transB {s : Addr} {H H1 H2 : Hp} (x : Same H H1) (y : SameB s H1 H2) (hs : H s = none) : Same H H2 := fun b o h => y b o (ne_of_none h hs) (x b o h)

/-! ### slices of any list -/
def cutL {α : Type} (xs : List α) (lo hi : Option Int) : List α := (xs.drop (HT.sIx xs.length 0 lo)).take (HT.sIx xs.length xs.length hi - HT.sIx xs.length 0 lo)
theorem cutV_map {α : Type} (f : α → V) (xs : List α) (lo hi : Option Int) : cutV (xs.map f) lo hi = (cutL xs lo hi).map f := by
  unfold cutV cutL
  rw [List.length_map, List.map_take, List.map_drop]
theorem cutL_length {α : Type} (xs : List α) (lo hi : Option Int) : (cutL xs lo hi).length ≤ xs.length := by
  unfold cutL
  rw [List.length_take, List.length_drop]
  omega
theorem cutL_mem {α : Type} {xs : List α} {lo hi : Option Int} {x : α} (h : x ∈ cutL xs lo hi) : x ∈ xs := List.mem_of_mem_drop (List.mem_of_mem_take h)

theorem cut_two {α : Type} (xs : List α) {a b : Int} (ha : 0 ≤ a) (hb : 0 ≤ b) : (cutL xs none (some a)).length + (cutL xs (some (a + b)) none).length ≤ xs.length := by
  obtain ⟨i, rfl⟩ := Int.eq_ofNat_of_zero_le ha
  obtain ⟨j, rfl⟩ := Int.eq_ofNat_of_zero_le hb
  unfold cutL
  rw [← Int.natCast_add, HT.sIx_none, HT.sIx_none, HT.sIx_nat, HT.sIx_nat]
  simp only [List.length_take, List.length_drop]
  omega

/-! ### lists of texts, of ints -/
theorem dpAll_str {K : PySem.W.Frag} {H : Hp} : ∀ xs : List Str, DpAll K H (xs.map V.str) (xs.map PyData.str)
  | [] => .nil
  | x :: xs => .cons (.str x) (dpAll_str xs)
theorem dpAll_int {K : PySem.W.Frag} {H : Hp} : ∀ xs : List Int, DpAll K H (xs.map V.int) (xs.map PyData.int)
  | [] => .nil
  | x :: xs => .cons (.int x) (dpAll_int xs)
theorem dpAll_bl {K : PySem.W.Frag} {H : Hp} : ∀ xs : List Bool, DpAll K H (xs.map V.bl) (xs.map PyData.bool)
  | [] => .nil
  | x :: xs => .cons (.bl x) (dpAll_bl xs)
theorem str_len_app (a b : Str) : (a ++ b).length = a.length + b.length := by
  show (a.cps ++ b.cps).size = a.cps.size + b.cps.size
  exact Array.size_append
theorem atI_mem {α : Type} {xs : List α} {d : Int} (h0 : 0 ≤ d) (h1 : d < xs.length) : ∃ v, v ∈ xs ∧ atI xs d = some v := by
  obtain ⟨j, rfl⟩ := Int.eq_ofNat_of_zero_le h0
  have hj : j < xs.length := by omega
  exact ⟨xs[j], List.getElem_mem hj, atI_nat (List.getElem?_eq_getElem hj)⟩
theorem atI_strs {ls : List Str} {d : Int} (h0 : 0 ≤ d) (h1 : d < ls.length) : ∃ z, z ∈ ls ∧ atI (ls.map V.str) d = some (.str z) := by
  obtain ⟨j, rfl⟩ := Int.eq_ofNat_of_zero_le h0
  have hj : j < ls.length := by omega
  exact ⟨ls[j], List.getElem_mem hj, atI_nat (by rw [List.getElem?_map, List.getElem?_eq_getElem hj]; rfl)⟩
theorem atI_ints {ls : List Int} {d : Int} (h0 : 0 ≤ d) (h1 : d < ls.length) : ∃ z, z ∈ ls ∧ atI (ls.map V.int) d = some (.int z) := by
  obtain ⟨j, rfl⟩ := Int.eq_ofNat_of_zero_le h0
  have hj : j < ls.length := by omega
  exact ⟨ls[j], List.getElem_mem hj, atI_nat (by rw [List.getElem?_map, List.getElem?_eq_getElem hj]; rfl)⟩
theorem rep_flat (k : Nat) (x : V) : (List.replicate k [x]).flatten = List.replicate k x := by
  induction k with
  | zero => rfl
  | succ k ih => rw [List.replicate_succ, List.flatten_cons, ih, List.replicate_succ]; rfl
theorem atI_map {α : Type} {xs : List α} {f : α → V} {i : Int} {j : Nat} {x : α} (e : i = (j : Int)) (h : xs[j]? = some x) : atI (xs.map f) i = some (f x) := by
  subst e
  exact atI_nat (by rw [List.getElem?_map, h]; rfl)
theorem atI_of {xs : List V} {i : Int} {j : Nat} {x : V} (e : i = (j : Int)) (h : xs[j]? = some x) : atI xs i = some x := by
  subst e
  exact atI_nat h
theorem ixN_of {n : Nat} {i : Int} {j : Nat} (e : i = (j : Int)) (h : j < n) : ixN n i = some j := by
  subst e
  unfold ixN
  rw [if_pos (by omega), if_pos (by omega)]
  rfl
theorem str_len_num {v : Int} (h0 : 0 ≤ v) {k : Nat} (hk : 0 < k) (h : v < 10 ^ k) : (Str.ofString (toString v)).length ≤ k := toString_length_le h0 hk h

/-! ### pairs of lists -/
theorem prd_app {α β : Type} {F : α → β → Prop} : ∀ {l₁ m₁ : List α} {l₂ m₂ : List β}, Paired F l₁ l₂ → Paired F m₁ m₂ → Paired F (l₁ ++ m₁) (l₂ ++ m₂)
  | _, _, _, _, .nil, h => h
  | _, _, _, _, .cons r t, h => .cons r (prd_app t h)
theorem prd_get {α β : Type} {F : α → β → Prop} : ∀ {l₁ : List α} {l₂ : List β} {i : Nat} {a : α}, Paired F l₁ l₂ → l₁[i]? = some a → ∃ b, l₂[i]? = some b ∧ F a b
  | _, _, _, _, .nil, e => by simp at e
  | _, _, 0, _, .cons r _, e => by simp at e; subst e; exact ⟨_, rfl, r⟩
  | _, _, i + 1, a, .cons _ t, e => by
    obtain ⟨b, h1, h2⟩ := prd_get (i := i) (a := a) t (by simpa using e)
    exact ⟨b, by simpa using h1, h2⟩
theorem prd_map {α β γ : Type} {F : α → β → Prop} {G : α → γ → Prop} (g : β → γ) (h : ∀ a b, F a b → G a (g b)) : ∀ {l₁ : List α} {l₂ : List β}, Paired F l₁ l₂ → Paired G l₁ (l₂.map g)
  | _, _, .nil => .nil
  | _, _, .cons r t => .cons (h _ _ r) (prd_map g h t)
theorem prd_mono {α β : Type} {F G : α → β → Prop} (h : ∀ a b, F a b → G a b) : ∀ {l₁ : List α} {l₂ : List β}, Paired F l₁ l₂ → Paired G l₁ l₂
  | _, _, .nil => .nil
  | _, _, .cons r t => .cons (h _ _ r) (prd_mono h t)
theorem prd_mem {α β : Type} {F : α → β → Prop} : ∀ {l₁ : List α} {l₂ : List β} {a : α}, Paired F l₁ l₂ → a ∈ l₁ → ∃ b, b ∈ l₂ ∧ F a b
  | _, _, _, .nil, e => by cases e
  | _, _, a, .cons (a := a') (b := b') r t, e => by
    rcases List.mem_cons.mp e with h | h
    · subst h; exact ⟨b', List.mem_cons_self, r⟩
    · obtain ⟨b, h1, h2⟩ := prd_mem t h
      exact ⟨b, List.mem_cons_of_mem _ h1, h2⟩
/-- a list of lists of texts: their addresses, and what stands there -/
def LLs (H : Hp) (as : List Addr) (cs : List (List Str)) : Prop := Paired (fun a c => H a = some (.lst (c.map V.str))) as cs
theorem LLs.same {H H' : Hp} {as : List Addr} {cs : List (List Str)} (h : LLs H as cs) (e : Same H H') : LLs H' as cs := prd_mono (fun a _ q => e a _ q) h

/-! ### the law's source of numbers -/
/-- three ints: what is left of the digits, the mixed one, how many were drawn (at most k) -/
def SrcL (k : Nat) (xs : List V) : Prop := ∃ a b c : Int, xs = [.int a, .int b, .int c] ∧ 0 ≤ a ∧ 0 ≤ b ∧ b < 2 ^ 200 ∧ 0 ≤ c ∧ c ≤ (k : Int)
theorem SrcL.mono {k m : Nat} {xs : List V} (h : SrcL k xs) (hk : k ≤ m) : SrcL m xs := by
  obtain ⟨a, b, c, e, h1, h2, h3, h4, h5⟩ := h
  exact ⟨a, b, c, e, h1, h2, h3, h4, by omega⟩
/-- a draw: bounds, and the source with one more drawn -/
def spDraw : Sp := fun vs H Q _ => ∃ (s : Addr) (n : Int) (k : Nat) (xs : List V), vs = [.ref s, .int n] ∧ H s = some (.lst xs) ∧ SrcL k xs ∧ k < 2 ^ 60 ∧ 0 < n ∧ n < 2 ^ 200 ∧
  ∀ (d : Int) (ys : List V), 0 ≤ d → d < n → SrcL (k + 1) ys → Q (.int d) (upd H s (.lst ys))
/-- a new source -/
def spSource (K : PySem.W.Frag) : Sp := fun vs H Q _ => ∃ (a : Addr) (i : Int) (ns : List Int), vs = [.ref a, .int i] ∧ SqL K H a (ns.map V.int) ∧ ns.length ≤ 63 ∧ 0 ≤ i ∧ i < 2 ^ 60 ∧
  ∀ (p : Addr) (xs : List V), H p = none → SrcL 0 xs → Q (.ref p) (upd H p (.lst xs))
/-- the law: the script is a list of at most 63 ints, the answer is True -/
def spLaw (K : PySem.W.Frag) : Sp := fun vs H Q _ => ∃ (a : Addr) (ns : List Int), vs = [.ref a] ∧ SqL K H a (ns.map V.int) ∧ ns.length ≤ 63 ∧ ∀ H', Q (.bl true) H'
end L2

/-! super().m(..) within a method of the text: judgements at a known activation. -/
namespace L2
open PySem PySem.Spec PyProof.Rows

structure PEa (X : Cx) (c : Code) (e : Expr) (t : TE) : Prop where
  run : ∀ (pins : List (Addr × Obj)) (s : Shared) (σ : St) (H : Hp) (Q : VK), Inv X pins σ H s → t σ H Q → _root_.PySem.wpAt (model X.prog X.w) X.A c (eval e X.env) (EP X pins σ Q) X.xe s
structure PSa (X : Cx) (c : Code) (st : Stmt) (t : TS) : Prop where
  run : ∀ (pins : List (Addr × Obj)) (s : Shared) (σ : St) (H : Hp) (D : Ends), Inv X pins σ H s → t D σ H → _root_.PySem.wpAt (model X.prog X.w) X.A c (exec st X.env) (SP X pins D) X.xe s
structure PSsa (X : Cx) (c : Code) (st : List Stmt) (t : TS) : Prop where
  run : ∀ (pins : List (Addr × Obj)) (s : Shared) (σ : St) (H : Hp) (D : Ends), Inv X pins σ H s → t D σ H → _root_.PySem.wpAt (model X.prog X.w) X.A c (execs st X.env) (SP X pins D) X.xe s
section
variable {X : Cx} {c : Code} {e a b : Expr} {te ta tb : TE} {pos : Pos}
theorem PE.ata (h : PE X e te) : PEa X c e te := ⟨fun pins s σ H Q I q => PySem.wpAt_of_wpAny (h.run pins s σ H Q I q)⟩
theorem psa_ret (h : PEa X c e te) : PSa X c (.Return (some e) pos) (tRet te) := ⟨fun pins s σ H D I q =>
  ks_wpAt_Return_some (PySem.wpAt_mono (h.run pins s σ H _ I q) (fun v s1 ⟨x, H1, I1, r1, q1⟩ => ⟨x, σ, H1, I1, r1, q1⟩) fun _ _ z => z)⟩
theorem psa_expr (h : PEa X c e te) (hs : swapsWith e none pos.line X.env = pure false := by rfl) : PSa X c (.Expr e pos) (tDrop te) := ⟨fun pins s σ H D I q =>
  ks_wpAt_Expr_any (PySem.wpAt_mono (h.run pins s σ H _ I q) (fun v s1 ⟨x, H1, I1, r1, q1⟩ => ⟨σ, H1, I1, q1⟩) fun _ _ z => z) I.quiet hs⟩
theorem pea_op {op : Operator} {r : R2} (ho : OpR X (binaryOp op) r) (ha : PEa X c a ta) (hb : PE X b tb) : PEa X c (.BinOp a op b pos) (tOp r ta tb) := ⟨fun pins s σ H Q I q =>
  ks_wpAt_BinOp (PySem.wpAt_mono (ha.run pins s σ H _ I q) (fun v s1 ⟨x, H1, I1, r1, q1⟩ => thn (hb.run pins s1 σ H1 _ I1 q1) fun u s2 ⟨y, H2, I2, r2, q2⟩ => ho pins s2 σ H2 x y v u Q I2 r1 r2 q2) fun _ _ z => z)⟩
theorem pssa_cons {st : Stmt} {rest : List Stmt} {t u : TS} (h1 : PSa X c st t) (h2 : PSs X rest u) : PSsa X c (st :: rest) (tSeq t u) := ⟨fun pins s σ H D I q => by
  refine ks_wpAt_execs_cons (PySem.wpAt_mono (h1.run pins s σ H { D with nx := u D } I q) (fun f s1 q1 => ?_) fun _ _ z => z)
  cases f with
  | next =>
    obtain ⟨σ', H', I', q1⟩ := q1
    exact PySem.wpAt_of_wpAny (h2.run pins s1 σ' H' D I' q1)
  | ret v => exact q1
  | brk => exact q1
  | cont => exact q1⟩
theorem pssa_one {st : Stmt} {t : TS} (h1 : PSa X c st t) : PSsa X c [st] (tSeq t tNext) := pssa_cons h1 pss_nil
end

/-- a def's first parameter -/
def argOf (st : Stmt) : Arg := ((defArgs st).posonlyargs ++ (defArgs st).args).headD { arg := "", annotation := none, pos := ⟨0, 0, 0, 0⟩ }
/-- how the method m behind D, for an instance of C, is found -/
structure SupIn (K : PySem.W.Frag) (C D : Addr) (m : Str) (f2 : Addr) : Prop where
  sub : PySem.W.mroIn K C (.ref D) = some true
  sup : PySem.W.ks_superIn K C D m = some (some (.ref f2))
/-- what the text says of super in a method at f of the class D -/
structure SupTx (P : Program) (K : PySem.W.Frag) (mg : Str → Option Value) (f cda D : Addr) (file : Str) : Prop where
  code : ∃ (ccl : Value) (cdd : Option Addr) (vs : Array Value) (ccs : Array (Option Value)) (tf : Tok), K.lookup cda = some ⟨ccl, cdd, .fields vs, ccs⟩ ∧ vs[2]? = some (.str file tf)
  file : ((P.main.file : Str) == file) = true
  top : (P.main.scope.names.lookup ("super" : Str)).isSome = false
  mg : mg "super" = none
  cls : ∃ cd, PySem.W.clsIn K D = some cd
  any : PySem.W.nsIn K cStatics "thirdparty.any" = some none
def tSup (K : PySem.W.Frag) (D : Addr) (m : Str) (f2 : Addr) (j : Nat) (sp : Sp) (dvs : List V) (E : XK) (t : TA) : TE := fun σ H Q => ∃ x C dx fs, σ[0]? = some (some (.ref x)) ∧ σ[j]? = some (some (.ref D)) ∧ H x = some (.ins C dx fs) ∧ SupIn K C D m f2 ∧
  t σ H fun vs H1 => sp (.ref x :: vs ++ dvs) H1 Q E
section
variable {X : Cx} {CX : CXT} {k : Nat} {f C : Addr} {fd : FuncData} {ps : List Str} {sp : Sp} {dvs : List V} {ds : List Value} {E : XK} {x m : Str} {p pos apos : Pos} {e o : Expr} {es : List Expr} {ta : TE} {t : TA}
theorem run_fnC {pins : List (Addr × Obj)} {σ : St} {H : Hp} {s : Shared} {Q : VK} {us : List Value} {vs : List V} (F : FnOk X.prog X.w X.K X.mg X.base CX k f fd ps sp) (hr : Room k X.A) (hb : Binds X.K fd ps ds) (hd : Vals dvs ds) (hx : Passes CX X E)
    (I : Inv X pins σ H s) (r : Vals vs us) (h : sp (vs ++ dvs) H Q E) : codeAny (model X.prog X.w) X.A (.call (.ref f) ⟨us, []⟩) (wants (EP X pins σ Q) X.xe) s := by
  have r2 : Vals (vs ++ dvs) (us ++ ds) := r.append hd
  have hl : (us ++ ds).length = ps.length := by rw [← r2.length]; exact F.len _ _ _ _ h
  refine codeAny_mono (F.run X.A X.stack s H ⟨us, []⟩ (us ++ ds) (vs ++ dvs) Q E hr I.env0 (hb s us I.kIn hl) r2 h) fun r s' hq => ?_
  cases r with
  | error e => exact hx pins σ H s e s' I hq
  | ok fl =>
    cases fl with
    | ret u => exact I.after hq
    | next => exact False.elim hq
    | brk => exact False.elim hq
    | cont => exact False.elim hq
theorem ldn {A : Around} {E : Value → Shared → Prop} {pins : List (Addr × Obj)} {s : Shared} {σ : St} {H : Hp} {i : Nat} {y : Str} {v : V} {Q : Value → Shared → Prop} (I : Inv X pins σ H s) (hN : X.N[i]? = some y) (hv : Vis X.env.scope y) (e : σ[i]? = some (some v)) (hcd : (y == ("__classdict__" : Str)) = false)
    (h : ∀ u, RelV v u → Q u s) : wpAny (model X.prog X.w) A (loadName X.env y) Q E s := by
  obtain ⟨m, hn, hl⟩ := I.loc
  obtain ⟨u, r, l⟩ := hl i y v hN e hv
  rcases l with ⟨hk, hm⟩ | ⟨hk, c, hc, hcell⟩
  · exact wpAny_loadName_local I.ok.kind hk hn hm (h u r)
  · rcases hk with hk | hk
    · exact wpAny_loadName_cell I.ok.kind hk hc hcell (h u r)
    · exact wpAny_loadName_free I.ok.kind hk hc hcell (h u r) hcd
/-- the object of super, made -/
theorem sup_base {pins : List (Addr × Obj)} {s : Shared} {σ : St} {H : Hp} {body : List Stmt} {p0 p1 : Pos} {attr : Str} {whole : Sem Value} {g cda D x C dx : Addr} {gd : FuncData} {ar : Arg} {file : Str} {fs : List (Str × V)} {j : Nat} {oc : Value} {od : Option Addr} {osl : Array (Option Value)} {Q : Value → Shared → Prop} {E : Value → Shared → Prop}
    (I : Inv X pins σ H s) (T : SupTx X.prog X.K X.mg g cda D file) (hks : X.env.scope.names.lookup ("super" : Str) = some .globalImplicit) (hkc : X.env.scope.names.lookup ("__class__" : Str) = some .free) (hat : (attr == ("__class__" : Str)) = false)
    (hfu : X.env.func = some g) (hf : X.K.lookup g = some ⟨oc, od, .func gd, osl⟩) (hp : (gd.params.posonlyargs ++ gd.params.args).head? = some ar) (hco : X.env.code = .ref cda)
    (h0 : X.N[0]? = some ar.arg) (v0 : Vis X.env.scope ar.arg) (c0 : (ar.arg == ("__classdict__" : Str)) = false) (hj : X.N[j]? = some "__class__") (e0 : σ[0]? = some (some (.ref x))) (ej : σ[j]? = some (some (.ref D))) (ex : H x = some (.ins C dx fs)) (hs : PySem.W.mroIn X.K C (.ref D) = some true)
    (h : ∀ h', h'.get? s.heap.objs.size = some (PySem.W.ks_superObj D x C) → (∀ y o, s.heap.get? y = some o → h'.get? y = some o) → Q (.ref s.heap.objs.size) { s with heap := h' }) :
    _root_.PySem.wpAt (model X.prog X.w) X.A (.func body X.env) (attributeBase (.Call (.Name "super" p0) [] [] p1) attr X.env whole) Q E s := by
  obtain ⟨⟨ccl, cdd, vs, ccs, tf, hcode, hvs⟩, hfile, htop, hmg, ⟨cdD, hD⟩, hany⟩ := T
  have KX := I.kIn
  obtain ⟨oD, hD1, hD2⟩ : ∃ oD, s.heap.get? D = some oD ∧ oD.data = .cls cdD := by
    unfold PySem.W.clsIn at hD
    split at hD
    · rename_i c d cd' sl ho
      cases hD
      exact ⟨_, KX _ _ ho, rfl⟩
    · cases hD
  obtain ⟨mA, O, _⟩ := ins_get I.hok ex
  obtain ⟨odd, J, _⟩ := O.look
  refine ks_wpAt_super_base (env := X.env) hks hkc hat hfu (KX _ _ hf) rfl hp hco (KX _ _ hcode) rfl hvs hfile htop ?_
  obtain ⟨mb, hb1, hb2⟩ := I.mod.blt
  refine PySem.W.ks_loadName_global I.ok.kind hks (Calls.loadGlobal_builtin (by rw [I.ok.glob]; exact I.mod.glob.keeps I.bk) hmg (by rw [I.ok.blt]; exact hb1.keeps I.bk) ((hb2 _ (by decide +kernel)).trans (by decide +kernel)) ⟨rfl, ?_⟩)
  refine ldn I hj (.inr (.inr hkc)) ej (by decide) fun u ru => ?_
  obtain rfl : u = .ref D := ru
  refine ldn I h0 v0 e0 c0 fun u ru => ?_
  obtain rfl : u = .ref x := ru
  obtain ⟨hh, g', d', t', os'⟩ := s
  refine ks_wpAny_isType_cls hD1 hD2 ⟨rfl, ?_⟩
  refine ks_wpAny_call_super hD1 hD2 J.at_ J.cls (fun c e => ?_) (PySem.W.looks_mroIn KX hs) (fun h' e k => h h' e k)
  have := J.no
  unfold PySem.W.notCls at this
  rw [e] at this
  exact Bool.noConfusion this
/-- .. and its method, bound: what stands then -/
theorem sup_meth {pins : List (Addr × Obj)} {s : Shared} {σ : St} {H : Hp} {pl : Sem Bool} {f2 so D x C dx g cda : Addr} {file : Str} {fs : List (Str × V)} {A : Around} {Q : Value × List Value → Shared → Prop} {E : Value → Shared → Prop}
    (I : Inv X pins σ H s) (T : SupTx X.prog X.K X.mg g cda D file) (ex : H x = some (.ins C dx fs)) (hs : SupIn X.K C D m f2) (hf : PySem.W.isFn X.K (.ref f2) = true) (hn : (m == ("__class__" : Str)) = false) (hso : s.heap.get? so = some (PySem.W.ks_superObj D x C))
    (h : Q (.ref s.heap.objs.size, []) { s with heap := s.heap.push { cls := .type "method", data := .fields #[.ref f2, .ref x] }, toks := s.toks + 1 }) : wpAny (model X.prog X.w) A (getMethod (.ref so) m pl) Q E s := by
  have KX := I.kIn
  obtain ⟨mA, O, _⟩ := ins_get I.hok ex
  obtain ⟨odd, J, _⟩ := O.look
  have hm := hs.sup
  cases hc : PySem.W.clsIn X.K C with
  | none => unfold PySem.W.ks_superIn at hm; rw [hc] at hm; cases hm
  | some cd =>
    unfold PySem.W.ks_superIn at hm
    rw [hc] at hm
    obtain ⟨of, hof, hofc⟩ : ∃ of, s.heap.get? f2 = some of ∧ of.cls = .type "function" := by
      have ht' : (X.K.lookup f2).map (·.cls) = some (.type "function") := beq_iff_eq.mp hf
      cases z : X.K.lookup f2 with
      | none => rw [z] at ht'; cases ht'
      | some of => rw [z] at ht'; exact ⟨of, KX _ _ z, Option.some.inj ht'⟩
    obtain ⟨hh, g', d', t', os'⟩ := s
    refine ks_wpAny_getMethod_super hso (PySem.W.looks_opaque KX T.any) (l₀ := cd.mro) ?_ rfl KX hm hof hofc (PySem.W.ks_ne KX J hc) hn h
    exact fun A Q E s k q => wpAny_bind ((PySem.W.looks_clsIn KX hc) A _ E s k (wpAny_pure q))
/-- super().m() -/
theorem pea_super0 {pl : Sem Bool} {body : List Stmt} {p0 p1 : Pos} {g cda D f2 : Addr} {gd : FuncData} {ar : Arg} {file : Str} {j : Nat} {oc : Value} {od : Option Addr} {osl : Array (Option Value)}
    (T : SupTx X.prog X.K X.mg g cda D file) (hks : X.env.scope.names.lookup ("super" : Str) = some .globalImplicit) (hkc : X.env.scope.names.lookup ("__class__" : Str) = some .free) (hat : (m == ("__class__" : Str)) = false)
    (hfu : X.env.func = some g) (hg : X.K.lookup g = some ⟨oc, od, .func gd, osl⟩) (hp : (gd.params.posonlyargs ++ gd.params.args).head? = some ar) (hco : X.env.code = .ref cda)
    (h0 : X.N[0]? = some ar.arg) (v0 : Vis X.env.scope ar.arg) (c0 : (ar.arg == ("__classdict__" : Str)) = false) (hj : X.N[j]? = some "__class__")
    (F : FnOk X.prog X.w X.K X.mg X.base CX k f2 fd ps sp) (hr : Room k X.A) (hb : Binds X.K fd ps ds) (hd : Vals dvs ds) (hx : Passes CX X E) (hf : PySem.W.isFn X.K (.ref f2) = true) (hfn : PySem.W.fnIn X.K f2 = true)
    (he : eval (.Call (.Attribute (.Call (.Name "super" p0) [] [] p1) m apos) [] [] pos) X.env = (do
      let ov ← attributeBase (.Call (.Name "super" p0) [] [] p1) m X.env (eval (.Call (.Name "super" p0) [] [] p1) X.env)
      standAt apos.atName
      let (f, first) ← holding [ov] (getMethod ov m pl)
      callWith pos f first (backTo pos (starEach [] X.env)) []) := by rfl) :
    PEa X (.func body X.env) (.Call (.Attribute (.Call (.Name "super" p0) [] [] p1) m apos) [] [] pos) (tSup X.K D m f2 j sp dvs E tNil) := by
  refine ⟨fun pins s σ H Q I q => ?_⟩
  obtain ⟨x, C, dx, fs, e0, ej, ex, hs, q⟩ := q
  refine ks_wpAt_MethodCall (pl := pl) (sup_base I T hks hkc hat hfu hg hp hco h0 v0 c0 hj e0 ej ex hs.sub fun h' hso kp => ?_) he
  have I1 : Inv X pins σ H { s with heap := h' } := I.kept (t' := s.toks) kp
  refine sup_meth I1 T ex hs hf hat hso ?_
  have I2 : Inv X pins σ H { s with heap := h'.push { cls := .type "method", data := .fields #[.ref f2, .ref x] }, toks := s.toks + 1 } := I1.kept (t' := s.toks + 1) fun b o e => Heap.get?_push_of_some _ e
  have hmo : (h'.push { cls := .type "method", data := .fields #[.ref f2, .ref x] }).get? h'.objs.size = some (PySem.W.methodObj (.ref f2) (.ref x)) := Heap.get?_push_at rfl rfl
  refine PySem.W.callWith_M0 (K := X.K) ⟨hmo, I2.kIn⟩ hfn ?_
  refine wpAny_call (ks_codeAny_call_bound hmo ?_)
  exact run_fnC (us := [.ref x]) (vs := [.ref x]) F hr hb hd hx I2 (.cons rfl .nil) q
/-- super().m(e, ..) -/
theorem pea_super {pl : Sem Bool} {body : List Stmt} {p0 p1 : Pos} {g cda D f2 : Addr} {gd : FuncData} {ar : Arg} {file : Str} {j : Nat} {oc : Value} {od : Option Addr} {osl : Array (Option Value)}
    (T : SupTx X.prog X.K X.mg g cda D file) (hks : X.env.scope.names.lookup ("super" : Str) = some .globalImplicit) (hkc : X.env.scope.names.lookup ("__class__" : Str) = some .free) (hat : (m == ("__class__" : Str)) = false)
    (hfu : X.env.func = some g) (hg : X.K.lookup g = some ⟨oc, od, .func gd, osl⟩) (hp : (gd.params.posonlyargs ++ gd.params.args).head? = some ar) (hco : X.env.code = .ref cda)
    (h0 : X.N[0]? = some ar.arg) (v0 : Vis X.env.scope ar.arg) (c0 : (ar.arg == ("__classdict__" : Str)) = false) (hj : X.N[j]? = some "__class__")
    (F : FnOk X.prog X.w X.K X.mg X.base CX k f2 fd ps sp) (hr : Room k X.A) (hb : Binds X.K fd ps ds) (hd : Vals dvs ds) (hx : Passes CX X E) (hf : PySem.W.isFn X.K (.ref f2) = true) (hfn : PySem.W.fnIn X.K f2 = true) (ha : PA X (e :: es) t)
    (hst : starEach (e :: es) X.env = (false, eval e X.env) :: starEach es X.env := by rfl) (hpl : (backTo pos (starEach es X.env)).any (·.1) = false := by rfl)
    (he : eval (.Call (.Attribute (.Call (.Name "super" p0) [] [] p1) m apos) (e :: es) [] pos) X.env = (do
      let ov ← attributeBase (.Call (.Name "super" p0) [] [] p1) m X.env (eval (.Call (.Name "super" p0) [] [] p1) X.env)
      standAt apos.atName
      let (f, first) ← holding [ov] (getMethod ov m pl)
      callWith pos f first (backTo pos (starEach (e :: es) X.env)) []) := by rfl) :
    PEa X (.func body X.env) (.Call (.Attribute (.Call (.Name "super" p0) [] [] p1) m apos) (e :: es) [] pos) (tSup X.K D m f2 j sp dvs E t) := by
  refine ⟨fun pins s σ H Q I q => ?_⟩
  obtain ⟨x, C, dx, fs, e0, ej, ex, hs, q⟩ := q
  refine ks_wpAt_MethodCall (pl := pl) (sup_base I T hks hkc hat hfu hg hp hco h0 v0 c0 hj e0 ej ex hs.sub fun h' hso kp => ?_) he
  have I1 : Inv X pins σ H { s with heap := h' } := I.kept (t' := s.toks) kp
  refine sup_meth I1 T ex hs hf hat hso ?_
  have I2 : Inv X pins σ H { s with heap := h'.push { cls := .type "method", data := .fields #[.ref f2, .ref x] }, toks := s.toks + 1 } := I1.kept (t' := s.toks + 1) fun b o e => Heap.get?_push_of_some _ e
  have hmo : (h'.push { cls := .type "method", data := .fields #[.ref f2, .ref x] }).get? h'.objs.size = some (PySem.W.methodObj (.ref f2) (.ref x)) := Heap.get?_push_at rfl rfl
  have hfr : H h'.objs.size = none := I1.hok.fresh (Nat.le_refl _)
  have I3 : Inv X ((h'.objs.size, PySem.W.methodObj (.ref f2) (.ref x)) :: pins) σ H { s with heap := h'.push { cls := .type "method", data := .fields #[.ref f2, .ref x] }, toks := s.toks + 1 } := by
    refine I2.pins_of fun p hp => ?_
    rcases List.mem_cons.mp hp with rfl | hp
    · refine ⟨hmo, hfr, fun z => ?_, I1.nofs (Nat.le_refl _), fun v z => nomatch z⟩
      exact absurd I1.lt (by rw [← z]; exact Nat.lt_irrefl _)
    · exact I2.pin p (List.mem_append_right _ hp)
  have hcall := PySem.W.callWith_M (K := X.K) (pos := pos) (first := []) (h₀ := X.base) (L := X.env.locals) (news := [(h'.objs.size, PySem.W.methodObj (.ref f2) (.ref x))]) (q := h'.objs.size) (g := f2) (self := .ref x) (M := model X.prog X.w) (A := X.A) (E := X.xe) (Q := EP X pins σ Q) I.mod.kin (fun p hp => by
    obtain rfl := List.mem_singleton.mp hp
    refine ⟨hmo, fun z => absurd I1.lt (by rw [← z]; exact Nat.lt_irrefl _), ?_⟩
    cases z : X.base.get? h'.objs.size with
    | none => rfl
    | some o => exact absurd (Heap.lt_size (I1.bk _ _ z)) (Nat.lt_irrefl _)) List.mem_cons_self hfn (thn (ha.run pos _ _ σ H _ I3 q) fun us s2 ⟨vs, H2, I4, r, q2⟩ => ⟨⟨(I4.pin _ (List.mem_append_right _ List.mem_cons_self)).1, I4.kIn⟩, ?_⟩) hst hpl
  · exact hcall
  · have hm2 := (I4.pin (h'.objs.size, PySem.W.methodObj (.ref f2) (.ref x)) (List.mem_append_right _ List.mem_cons_self)).1
    refine wpAny_call (ks_codeAny_call_bound hm2 ?_)
    have I5 : Inv X pins σ H2 s2 := I4.pins_of fun p hp => I4.pin p (List.mem_append_right _ (List.mem_cons_of_mem _ hp))
    exact run_fnC (us := .ref x :: us) (vs := .ref x :: vs) F hr hb hd hx I5 (.cons rfl r) q2
end

/-! ### a method that names super -/
theorem look1 {y k : Str} {c d : Addr} (h : [(k, c)].lookup y = some d) : y = k ∧ d = c := by
  rw [List.lookup_cons] at h
  split at h
  · rename_i e
    exact ⟨eq_of_beq e, (Option.some.inj h).symm⟩
  · cases h
/-- the method st of the class at D, closed over __class__ -/
structure FunS (K : PySem.W.Frag) (x qual : Str) (st : Stmt) (f cda D : Addr) (fd : FuncData) : Prop where
  ex : ∃ (oc : Value) (od : Option Addr) (kV doc pm : Value) (an : Option Addr) (ct : Value) (osl : Array (Option Value)) (cc : Addr) (cl : Value) (cld : Option Addr) (csl : Array (Option Value)),
    fd = PySem.W.ksFn x qual (defArgs st) (defBody st) (defScope st) .none kV doc pm an (.ref cda) ct cc ∧ K.lookup f = some ⟨oc, od, .func fd, osl⟩ ∧ PySem.W.codeIn K (.ref cda) qual = true ∧ K.lookup cc = some ⟨cl, cld, .cell (some (.ref D)), csl⟩
  kp : PySem.W.keepIn K (.ref f) = true
section
variable {P : Program} {w : World} {K : PySem.W.Frag} {mg : Str → Option Value} {base : Heap} {CX : CXT}
abbrev nfOf (x qual : Str) (st : Stmt) (cda cc : Addr) : NdefX.NF := ⟨x, qual, defArgs st, defBody st, defScope st, [("__class__", cc)], cda⟩
theorem FunS.ok {x qual : Str} {st : Stmt} {f cda D : Addr} {fd : FuncData} {N ps : List Str} {k : Nat} {sp : Sp} (F : FunS K x qual st f cda D fd) (S : NdefX.NScope N ps ["__class__"] (defScope st)) (len : ∀ vs H Q E, sp vs H Q E → vs.length = ps.length)
    (hbody : ∀ (cc : Addr) (oc : Value) (od : Option Addr) (osl : Array (Option Value)) (A : Around) (outer : List Env) (s : Shared) (H : Hp) (vs : List V) (Q : VK) (E : XK), K.lookup f = some ⟨oc, od, .func fd, osl⟩ → fd.params = defArgs st →
      Room k (A.deeper (NdefX.envF (nfOf x qual st cda cc) f s.heap.objs.size)) → sp vs H Q E →
      ∃ t, PSsa (NdefX.ncx CX P w K mg base N (nfOf x qual st cda cc) f A outer s H E) (.func (defBody st) (NdefX.envF (nfOf x qual st cda cc) f s.heap.objs.size)) (defBody st) t ∧ t { nx := fun _ H' => Q .non H', rt := Q } (NdefX.startF N vs [some (.ref D)]) H) :
    FnOk P w K mg base CX (k + 1) f fd ps sp := by
  obtain ⟨oc, od, kV, doc, pm, an, ct, osl, cc, cl, cld, csl, rfl, lk, hcd, hcc⟩ := F.ex
  refine ⟨len, fun A outer s H args us vs Q E hr e0 hb r hsp => ?_⟩
  have hl := len _ _ _ _ hsp
  have KX : K.In s.heap := e0.mod.kin.keeps fun b o e => (e0.bs b o e).1
  have lim : s.heap.NoLimit := e0.mod.nolimit.keeps fun b o e => (e0.bs b o e).1
  refine ks_codeAny_call_defAt (binds := ps.zip us) hr.depth (KX _ _ lk) rfl lim (PySem.W.codeRec_of KX hcd) rfl hb S.nocell (fun y hy => S.par y.1 (List.of_mem_zip hy).1) (fun h₁ hns kp => ?_) S.co S.gen S.kind
  obtain ⟨t, ht, hq⟩ := hbody cc oc od osl A outer s H vs Q E lk rfl (hr.deeper _) hsp
  have C : NdefX.CellsAt [("__class__", cc)] ["__class__"] [some (V.ref D)] s.heap H := by
    have hcc' := KX _ _ hcc
    have hn : H cc = none := (e0.bs _ _ (e0.mod.kin _ _ hcc)).2
    refine ⟨rfl, fun y c e => ?_, fun y z c e1 e2 => ?_, fun i y hi => ?_⟩
    · obtain ⟨_, rfl⟩ := look1 e
      exact ⟨hn, _, _, hcc', rfl⟩
    · rw [(look1 e1).1, (look1 e2).1]
    · cases i with
      | zero =>
        have : y = "__class__" := by simpa using hi.symm
        subst this
        refine ⟨cc, by rw [List.lookup_cons, beq_self_eq_true], fun v hv => ?_⟩
        have : v = .ref D := by simpa using hv.symm
        subst this
        exact ⟨.ref D, rfl, _, hcc', rfl⟩
      | succ i => simp at hi
  have I : Inv (NdefX.ncx CX P w K mg base N (nfOf x qual st cda cc) f A outer s H E) [] (NdefX.startF N vs [some (V.ref D)]) H { s with heap := h₁, toks := s.toks + (ps.zip us).length } := NdefX.inv_startN (F := nfOf x qual st cda cc) S hr.hd e0 hl r C hns kp
  refine PySem.wpAt_mono (ht.run [] _ _ H _ I hq) (fun fl s' hs => ?_) fun e s' hs => hs
  have fin : ∀ {σ' : L2.St} {H' : Hp} {v : V} {u : Value}, Inv (NdefX.ncx CX P w K mg base N (nfOf x qual st cda cc) f A outer s H E) [] σ' H' s' → L2.RelV v u → Q v H' → CE outer P w H s Q u s' :=
    fun {σ' H' v u} J rv q => ⟨v, H', J.os, J.bare, J.base, J.hok, rv, q⟩
  cases fl with
  | ret u =>
    obtain ⟨v, σ', H', J, rv, q⟩ := hs
    exact fin J rv q
  | next =>
    obtain ⟨σ', H', J, q⟩ := hs
    exact fin (v := V.non) (u := Value.none) J rfl q
  | brk =>
    obtain ⟨_, _, _, q⟩ := hs
    exact False.elim q
  | cont =>
    obtain ⟨_, _, _, q⟩ := hs
    exact False.elim q
end
end L2

/-! == and != with both answers, where items are compared by an own __eq__. -/
namespace GB
open PySem PySem.SeqAt
open AutoSeq1 (wpAny_loadPart')
open MeetsSeq MeetsSeq2 MeetsSeq3 SeqRoads2
open GQ (FinOf)
section
variable {prog : Program} {w : World} {A : Around} {R : Result → Shared → Prop}
/-- the two lists read anew at each turn; the i-th two are equal as e says -/
def ListB (prog : Program) (w : World) (A : Around) (E : Value → Shared → Prop) (l b : Addr) (N : Nat) (e : Nat → Bool) (I : Shared → Prop) : Prop :=
  ∀ s, I s → ∃ (items items2 : Array Value) (n n2 : Nat), s.heap.get? l = some { cls := .type "list", data := .seq items n } ∧ s.heap.get? b = some { cls := .type "list", data := .seq items2 n2 } ∧ items.size = N ∧ items2.size = N ∧
    ∀ i (h1 : i < items.size) (h2 : i < items2.size), wpAny (model prog w) A.in1 (eqBool items[i] items2[i]) (fun r s' => r = e i ∧ I s') E s
theorem drop_range {N i : Nat} (h : i < N) : (List.range N).drop i = i :: (List.range N).drop (i + 1) := by simp [List.drop_eq_getElem_cons, h]
theorem eq_loopB (l b : Addr) (N : Nat) (e : Nat → Bool) (I : Shared → Prop) (hl : ListB prog w A (fun e s' => R (.error e) s') l b N e I) (k : Nat) :
    ∀ i : Nat, N - i = k → i ≤ N → ∀ s, I s → (∀ s, I s → R (.ok (.ret (.bool (((List.range N).drop i).all e)))) s) →
      wpAny (model prog w) A.in1 (Builtin.«list.__eq__.loop» ⟨[.ref l, .ref b, rawInt i, rawInt 2], []⟩) (FinOf prog w A R) (fun e s' => R (.error e) s') s := by
  induction k with
  | zero =>
    intro i hk hi s h fin
    obtain ⟨items, items2, n, n2, hl1, hb1, hs1, hs2, _⟩ := hl _ h
    have hi' : i = N := by omega
    have hR := fin s h
    rw [hi', List.drop_of_length_le (by simp)] at hR
    obtain ⟨hp, g, d, tk, os⟩ := s
    wp_walk using wpAny_loadPart' hl1, wpAny_loadPart' hb1
    have hi1 : items[((i : Nat) : Int).toNat]? = none := by simp; omega
    have hi2 : items2[((i : Nat) : Int).toNat]? = none := by simp; omega
    rw [hi1, hi2]
    wp_walk using wpAny_loadPart' hl1, wpAny_loadPart' hb1
    show R (.ok (.ret (.bool (items.size == items2.size)))) _
    rw [hs1, hs2]
    simpa using hR
  | succ k ih =>
    intro i hk hi s h fin
    obtain ⟨items, items2, n, n2, hl1, hb1, hs1, hs2, turn⟩ := hl _ h
    have hlt : i < items.size := by omega
    have hlt2 : i < items2.size := by omega
    have ht := turn i hlt hlt2
    rw [drop_range (show i < N by omega), List.all_cons] at fin
    obtain ⟨hp, g, d, tk, os⟩ := s
    wp_walk using wpAny_loadPart' hl1, wpAny_loadPart' hb1
    have hi1 : items[((i : Nat) : Int).toNat]? = some items[i] := by simp [hlt]
    have hi2 : items2[((i : Nat) : Int).toNat]? = some items2[i] := by simp [hlt2]
    have hc : ((i : Int) + 1) = ((i + 1 : Nat) : Int) := by omega
    rw [hi1, hi2]
    refine wpAny_bind (wpAny_mono ht (fun r s2 h2 => ?_) fun _ _ x => x)
    obtain ⟨hr, h2⟩ := h2
    subst hr
    cases he : e i with
    | true =>
      rw [he] at fin
      have hrec := ih (i + 1) (by omega) (by omega) s2 h2 (by simpa using fin)
      obtain ⟨hp2, g2, d2, tk2, os2⟩ := s2
      wp_walk
      rw [hc]
      exact ⟨plainId_quiet plain_eq_loop _, codeAny_builtin entry_eq_loop (by
        rw [Around.under_plainId plain_eq_loop _]
        exact hrec)⟩
    | false =>
      rw [he] at fin
      obtain ⟨items3, items4, n3, n4, hl2, hb2, hs3, hs4, _⟩ := hl _ h2
      have hR := fin _ h2
      have hj1 : items3[((i : Nat) : Int).toNat]? = some (items3[i]'(by omega)) := by simp [show i < items3.size by omega]
      have hj2 : items4[((i : Nat) : Int).toNat]? = some (items4[i]'(by omega)) := by simp [show i < items4.size by omega]
      obtain ⟨hp2, g2, d2, tk2, os2⟩ := s2
      wp_walk using wpAny_loadPart' hl2, wpAny_loadPart' hb2
      rw [hj1, hj2]
      wp_walk
      simpa using hR
theorem ne_loopB (l b : Addr) (N : Nat) (e : Nat → Bool) (I : Shared → Prop) (hl : ListB prog w A (fun e s' => R (.error e) s') l b N e I) (k : Nat) :
    ∀ i : Nat, N - i = k → i ≤ N → ∀ s, I s → (∀ s, I s → R (.ok (.ret (.bool (!((List.range N).drop i).all e)))) s) →
      wpAny (model prog w) A.in1 (Builtin.«list.__eq__.loop» ⟨[.ref l, .ref b, rawInt i, rawInt 3], []⟩) (FinOf prog w A R) (fun e s' => R (.error e) s') s := by
  induction k with
  | zero =>
    intro i hk hi s h fin
    obtain ⟨items, items2, n, n2, hl1, hb1, hs1, hs2, _⟩ := hl _ h
    have hi' : i = N := by omega
    have hR := fin s h
    rw [hi', List.drop_of_length_le (by simp)] at hR
    obtain ⟨hp, g, d, tk, os⟩ := s
    wp_walk using wpAny_loadPart' hl1, wpAny_loadPart' hb1
    have hi1 : items[((i : Nat) : Int).toNat]? = none := by simp; omega
    have hi2 : items2[((i : Nat) : Int).toNat]? = none := by simp; omega
    rw [hi1, hi2]
    wp_walk using wpAny_loadPart' hl1, wpAny_loadPart' hb1
    show R (.ok (.ret (.bool (items.size != items2.size)))) _
    rw [hs1, hs2]
    simpa using hR
  | succ k ih =>
    intro i hk hi s h fin
    obtain ⟨items, items2, n, n2, hl1, hb1, hs1, hs2, turn⟩ := hl _ h
    have hlt : i < items.size := by omega
    have hlt2 : i < items2.size := by omega
    have ht := turn i hlt hlt2
    rw [drop_range (show i < N by omega), List.all_cons] at fin
    obtain ⟨hp, g, d, tk, os⟩ := s
    wp_walk using wpAny_loadPart' hl1, wpAny_loadPart' hb1
    have hi1 : items[((i : Nat) : Int).toNat]? = some items[i] := by simp [hlt]
    have hi2 : items2[((i : Nat) : Int).toNat]? = some items2[i] := by simp [hlt2]
    have hc : ((i : Int) + 1) = ((i + 1 : Nat) : Int) := by omega
    rw [hi1, hi2]
    refine wpAny_bind (wpAny_mono ht (fun r s2 h2 => ?_) fun _ _ x => x)
    obtain ⟨hr, h2⟩ := h2
    subst hr
    cases he : e i with
    | true =>
      rw [he] at fin
      have hrec := ih (i + 1) (by omega) (by omega) s2 h2 (by simpa using fin)
      obtain ⟨hp2, g2, d2, tk2, os2⟩ := s2
      wp_walk
      rw [hc]
      exact ⟨plainId_quiet plain_eq_loop _, codeAny_builtin entry_eq_loop (by
        rw [Around.under_plainId plain_eq_loop _]
        exact hrec)⟩
    | false =>
      rw [he] at fin
      obtain ⟨items3, items4, n3, n4, hl2, hb2, hs3, hs4, _⟩ := hl _ h2
      have hR := fin _ h2
      have hj1 : items3[((i : Nat) : Int).toNat]? = some (items3[i]'(by omega)) := by simp [show i < items3.size by omega]
      have hj2 : items4[((i : Nat) : Int).toNat]? = some (items4[i]'(by omega)) := by simp [show i < items4.size by omega]
      obtain ⟨hp2, g2, d2, tk2, os2⟩ := s2
      wp_walk using wpAny_loadPart' hl2, wpAny_loadPart' hb2
      rw [hj1, hj2]
      wp_walk
      simpa using hR
theorem list_eqB (l b : Addr) (N : Nat) (e : Nat → Bool) (I : Shared → Prop) (hl : ListB prog w A (fun e s' => R (.error e) s') l b N e I)
    (fin : ∀ s, I s → R (.ok (.ret (.bool ((List.range N).all e)))) s) {s : Shared} (h : I s) :
    wpAny (model prog w) A.in1 (Builtin.«list.__eq__» ⟨[.ref l, .ref b], []⟩) (FinOf prog w A R) (fun e s' => R (.error e) s') s := by
  obtain ⟨items, items2, n, n2, hl1, hb1, hs1, hs2, _⟩ := hl _ h
  have hrec := eq_loopB (A := A) (R := R) l b N e I hl _ 0 rfl (Nat.zero_le _) s h (by simpa using fin)
  obtain ⟨hp, g, d, tk, os⟩ := s
  have f3 := AutoSeq1.sub_list_list
  have hne : ¬ (items.size != items2.size) = true := by simp [hs1, hs2]
  wp_walk using wpAny_loadPart' hl1, wpAny_loadPart' hb1
  exact ⟨plainId_quiet plain_eq_loop _, codeAny_builtin entry_eq_loop (by
    rw [Around.under_plainId plain_eq_loop _]
    exact hrec)⟩
theorem list_neB (l b : Addr) (N : Nat) (e : Nat → Bool) (I : Shared → Prop) (hl : ListB prog w A (fun e s' => R (.error e) s') l b N e I)
    (fin : ∀ s, I s → R (.ok (.ret (.bool (!(List.range N).all e)))) s) {s : Shared} (h : I s) :
    wpAny (model prog w) A.in1 (Builtin.«list.__ne__» ⟨[.ref l, .ref b], []⟩) (FinOf prog w A R) (fun e s' => R (.error e) s') s := by
  obtain ⟨items, items2, n, n2, hl1, hb1, hs1, hs2, _⟩ := hl _ h
  have hrec := ne_loopB (A := A) (R := R) l b N e I hl _ 0 rfl (Nat.zero_le _) s h (by simpa using fin)
  obtain ⟨hp, g, d, tk, os⟩ := s
  have f3 := AutoSeq1.sub_list_list
  have hne : ¬ (items.size != items2.size) = true := by simp [hs1, hs2]
  wp_walk using wpAny_loadPart' hl1, wpAny_loadPart' hb1
  exact ⟨plainId_quiet plain_eq_loop _, codeAny_builtin entry_eq_loop (by
    rw [Around.under_plainId plain_eq_loop _]
    exact hrec)⟩
theorem tuple_eqB (l b : Addr) (items items2 : Array Value) (n n2 : Nat) (dd dd2 : Option Addr) (sl sl2 : Array (Option Value)) (e : Nat → Bool) (I : Shared → Prop)
    (turn : ∀ i (h1 : i < items.size) (h2 : i < items2.size) s, I s → wpAny (model prog w) A.in1 (eqBool items[i] items2[i]) (fun r s' => r = e i ∧ I s') (fun e s' => R (.error e) s') s)
    (fin : ∀ s, I s → R (.ok (.ret (.bool ((List.range (min items.size items2.size)).all e && items.size == items2.size)))) s) {s : Shared} (hl1 : s.heap.get? l = some { cls := .type "tuple", dict := dd, data := .seq items n, slots := sl }) (hb1 : s.heap.get? b = some { cls := .type "tuple", dict := dd2, data := .seq items2 n2, slots := sl2 }) (h : I s) :
    wpAny (model prog w) A.in1 (Builtin.«tuple.__eq__» ⟨[.ref l, .ref b], []⟩) (FinOf prog w A R) (fun e s' => R (.error e) s') s := by
  have f2 := AutoSeq1.sub_tuple_tuple
  have hZ : (items.toList.zip items2.toList).length = min items.size items2.size := by simp
  have h0 := h
  obtain ⟨hp, g, d, tk, os⟩ := s
  wp_walk using wpAny_loadPart' hl1, wpAny_loadPart' hb1, wpAny_forIn_list _ (fun rest b s' => b.1 = none ∧ I s' ∧ ∃ i, rest = (items.toList.zip items2.toList).drop i ∧
    ∀ s, I s → R (.ok (.ret (.bool (((List.range (min items.size items2.size)).drop i).all e && items.size == items2.size)))) s) _
  case turn =>
    rintro ⟨y, x⟩ rest b s' ⟨hb', hI, i, hz, hR⟩
    have hlt : i < (items.toList.zip items2.toList).length := by
      rcases Nat.lt_or_ge i (items.toList.zip items2.toList).length with h' | h'
      · exact h'
      · rw [List.drop_of_length_le h'] at hz; cases hz
    have hm : i < min items.size items2.size := hZ ▸ hlt
    have h1 : i < items.size := Nat.lt_of_lt_of_le hm (Nat.min_le_left _ _)
    have h2 : i < items2.size := Nat.lt_of_lt_of_le hm (Nat.min_le_right _ _)
    rw [List.drop_eq_getElem_cons hlt] at hz
    injection hz with hyx hrest
    have hy : y = items[i] := by have := congrArg Prod.fst hyx; simpa using this
    have hx : x = items2[i] := by have := congrArg Prod.snd hyx; simpa using this
    subst hy hx
    rw [drop_range hm, List.all_cons] at hR
    refine wpAny_bind (wpAny_mono (turn i h1 h2 s' hI) (fun r s2 q2 => ?_) fun _ _ x => x)
    obtain ⟨hr, q2⟩ := q2
    subst hr
    cases he : e i with
    | true =>
      rw [he] at hR
      wp_walk
      exact ⟨rfl, q2, i + 1, hrest, by simpa using hR⟩
    | false =>
      rw [he] at hR
      have := hR _ q2
      wp_walk
      simpa using this
  case fin =>
    rintro ⟨b1, b2⟩ s' ⟨hb', hI, i, hz, hR⟩
    simp only at hb'
    subst hb'
    have hge : min items.size items2.size ≤ i := by
      rcases Nat.lt_or_ge i (items.toList.zip items2.toList).length with h' | h'
      · rw [List.drop_eq_getElem_cons h'] at hz; cases hz
      · exact hZ ▸ h'
    rw [List.drop_of_length_le (by simpa using hge)] at hR
    have := hR _ hI
    wp_walk
    simpa [Builtin.Tuple.tupleCompareSizes] using this
  case h =>
    exact ⟨rfl, h0, 0, rfl, by simpa using fin⟩
theorem tuple_neB (l b : Addr) (items items2 : Array Value) (n n2 : Nat) (dd dd2 : Option Addr) (sl sl2 : Array (Option Value)) (e : Nat → Bool) (I : Shared → Prop)
    (turn : ∀ i (h1 : i < items.size) (h2 : i < items2.size) s, I s → wpAny (model prog w) A.in1 (eqBool items[i] items2[i]) (fun r s' => r = e i ∧ I s') (fun e s' => R (.error e) s') s)
    (fin : ∀ s, I s → R (.ok (.ret (.bool (!((List.range (min items.size items2.size)).all e && items.size == items2.size))))) s) {s : Shared} (hl1 : s.heap.get? l = some { cls := .type "tuple", dict := dd, data := .seq items n, slots := sl }) (hb1 : s.heap.get? b = some { cls := .type "tuple", dict := dd2, data := .seq items2 n2, slots := sl2 }) (h : I s) :
    wpAny (model prog w) A.in1 (Builtin.«tuple.__ne__» ⟨[.ref l, .ref b], []⟩) (FinOf prog w A R) (fun e s' => R (.error e) s') s := by
  have f2 := AutoSeq1.sub_tuple_tuple
  have hZ : (items.toList.zip items2.toList).length = min items.size items2.size := by simp
  have h0 := h
  obtain ⟨hp, g, d, tk, os⟩ := s
  wp_walk using wpAny_loadPart' hl1, wpAny_loadPart' hb1, wpAny_forIn_list _ (fun rest b s' => b.1 = none ∧ I s' ∧ ∃ i, rest = (items.toList.zip items2.toList).drop i ∧
    ∀ s, I s → R (.ok (.ret (.bool (!(((List.range (min items.size items2.size)).drop i).all e && items.size == items2.size))))) s) _
  case turn =>
    rintro ⟨y, x⟩ rest b s' ⟨hb', hI, i, hz, hR⟩
    have hlt : i < (items.toList.zip items2.toList).length := by
      rcases Nat.lt_or_ge i (items.toList.zip items2.toList).length with h' | h'
      · exact h'
      · rw [List.drop_of_length_le h'] at hz; cases hz
    have hm : i < min items.size items2.size := hZ ▸ hlt
    have h1 : i < items.size := Nat.lt_of_lt_of_le hm (Nat.min_le_left _ _)
    have h2 : i < items2.size := Nat.lt_of_lt_of_le hm (Nat.min_le_right _ _)
    rw [List.drop_eq_getElem_cons hlt] at hz
    injection hz with hyx hrest
    have hy : y = items[i] := by have := congrArg Prod.fst hyx; simpa using this
    have hx : x = items2[i] := by have := congrArg Prod.snd hyx; simpa using this
    subst hy hx
    rw [drop_range hm, List.all_cons] at hR
    refine wpAny_bind (wpAny_mono (turn i h1 h2 s' hI) (fun r s2 q2 => ?_) fun _ _ x => x)
    obtain ⟨hr, q2⟩ := q2
    subst hr
    cases he : e i with
    | true =>
      rw [he] at hR
      wp_walk
      exact ⟨rfl, q2, i + 1, hrest, by simpa using hR⟩
    | false =>
      rw [he] at hR
      have := hR _ q2
      wp_walk
      simpa using this
  case fin =>
    rintro ⟨b1, b2⟩ s' ⟨hb', hI, i, hz, hR⟩
    simp only at hb'
    subst hb'
    have hge : min items.size items2.size ≤ i := by
      rcases Nat.lt_or_ge i (items.toList.zip items2.toList).length with h' | h'
      · rw [List.drop_eq_getElem_cons h'] at hz; cases hz
      · exact hZ ▸ h'
    rw [List.drop_of_length_le (by simpa using hge)] at hR
    have := hR _ hI
    wp_walk
    simpa [Builtin.Tuple.tupleCompareSizes, bne] using this
  case h =>
    exact ⟨rfl, h0, 0, rfl, by simpa using fin⟩
end
end GB

/-! == and != of own instances, of lists and tuples of such: judgements with both answers. -/
namespace GB
open PySem PySem.W
section
variable {prog : Program} {w : World} {A : Around} {E : Value → Shared → Prop} {s : Shared} {K : Frag} {x C f : Addr} {ox : Obj} {od : Option Obj} {b tb : Value}
/-- one side's __eq__ -/
theorem tc_eq {Q : Option Value → Shared → Prop} (X : K.In s.heap) (I : InstAt s.heap x ox C od) (hs : findIn K (.ref C) "__eq__" = some (some (.ref f))) (hf : isFn K (.ref f) = true)
    (h : wpAny (model prog w) A (call (.ref f) [.ref x, b]) (fun v s' => ∃ k, v = .bool k ∧ Q (some (.bool k)) s') E s) : wpAny (model prog w) A (tryCompare (.ref x) "__eq__" b) Q E s := by
  unfold tryCompare
  refine wpAny_bind (ifBound_K X I hs hf (wpAny_mono h (fun v s' hv => ?_) fun _ _ e => e))
  obtain ⟨k, rfl, q⟩ := hv
  exact wpAny_pure q
theorem ifBound_ne {Q : Option Value → Shared → Prop} (X : K.In s.heap) (I : InstAt s.heap x ox C od) (hs : findIn K (.ref C) "__ne__" = some (some (.builtin "object.__ne__")))
    (h : wpAny (model prog w) A (call (.builtin "object.__ne__") [.ref x, b]) (fun v => Q (some v)) E s) : wpAny (model prog w) A (callSpecialIfBound? (.ref x) "__ne__" [b]) Q E s := by
  simp only [callSpecialIfBound?, bindSpecialIfBound?]
  refine wpAny_holding (wpAny_bind (wpAny_bind (wpAny_bind (I.type.here ((looks_findIn X hs).here ?_)))))
  simp only [F.cmp_object.ne.bind]
  refine wpAny_bind (wpAny_askSetting (wpAny_ite ?_))
  have fin : wpAny (model prog w) A (call (.builtin "object.__ne__") ([.ref x] ++ [b]) >>= fun v => pure (some v)) Q E s := wpAny_bind (wpAny_mono h (fun v s' h' => wpAny_pure h') fun _ _ h' => h')
  split
  · exact wpAny_bind (wpAny_pure (wpAny_pure fin))
  · exact wpAny_tryCatch (wpAny_bind (wpAny_pure (wpAny_pure fin)))
theorem objNe_own {Q : Fin → Shared → Prop} (X : K.In s.heap) (I : InstAt s.heap x ox C od) (hs : findIn K (.ref C) "__eq__" = some (some (.ref f))) (hf : isFn K (.ref f) = true) (hu : A.units < cLine)
    (h : wpAny (model prog w) A (call (.ref f) [.ref x, b]) (fun v s' => ∃ k, v = .bool k ∧ Q (.done (.ret (.bool (!k)))) s') E s) :
    wpAny (model prog w) A (Builtin.«object.__ne__» ⟨[.ref x, b], []⟩) Q E s := by
  unfold Builtin.«object.__ne__»
  repeat (first
    | with_reducible refine wpAny_cRoomFor hu ?_
    | (refine wpAny_bind (m := callSpecialIfBound? (.ref x) (Str.ofString "__eq__") [b])
        (ifBound_K X I hs hf (wpAny_mono h (fun r s' hr => by
          obtain ⟨b, rfl, hq⟩ := hr
          repeat (first | exact hq | exact wpAny_pure hq | exact wpAny_truthy_bool hq | (refine wpAny_bind (m := truthy (.bool _)) (wpAny_truthy_bool ?_)) | wp_step)) fun _ _ e => e)))
    | wp_step)
/-- one side's __ne__, object's own, by __eq__ -/
theorem tc_ne {Q : Option Value → Shared → Prop} (X : K.In s.heap) (I : InstAt s.heap x ox C od) (hs : findIn K (.ref C) "__eq__" = some (some (.ref f))) (hf : isFn K (.ref f) = true)
    (hn : findIn K (.ref C) "__ne__" = some (some (.builtin "object.__ne__"))) (hm : mroIn K C (.type "object") = some true) (hu : A.in1.units < cLine)
    (h : wpAny (model prog w) A.in1 (call (.ref f) [.ref x, b]) (fun v s' => ∃ k, v = .bool k ∧ Q (some (.bool (!k))) s') E s) : wpAny (model prog w) A (tryCompare (.ref x) "__ne__" b) Q E s := by
  unfold tryCompare
  have sub : Looks (model prog w) s.heap (isInstance (.ref x) (.type "object")) true := I.type.andThen (looks_mroIn X hm)
  refine wpAny_bind (ifBound_ne X I hn (wpAny_call (codeAny_call_builtin F.cmp_object.ne.plain F.cmpEntry_ne (check_slot F.cmpKind_ne F.cmpSplit_ne sub (F.cmpArgs_ne _ _) ?_))))
  refine objNe_own (A := A.in1) X I hs hf hu (wpAny_mono h (fun v s' hv => ?_) fun _ _ e => e)
  obtain ⟨k, rfl, q⟩ := hv
  first | exact ⟨k, rfl, wpAny_pure q⟩ | exact ⟨k, rfl, wpAny_pure (wpAny_pure q)⟩ | exact ⟨k, rfl, q⟩
/-- the left side is asked first -/
theorem rc_left {op : CmpOp} {Q : Value → Shared → Prop} (hu : A.units < cLine) (X : K.In s.heap) (I : InstAt s.heap x ox C od) (hb : Looks (model prog w) s.heap (typeOf b) tb) (hn : notFirst K C tb = true)
    (one : wpAny (model prog w) A (tryCompare (.ref x) (cmpInfo op).2.1 b) (fun r s' => ∃ v, r = some v ∧ Q v s') E s) : wpAny (model prog w) A (richCompare op (.ref x) b) Q E s := by
  unfold richCompare
  simp only [oneThing_ref]
  refine wpAny_holding (wpAny_bind (wpAny_cRoomFor hu ?_))
  refine wpAny_bind (I.type.here (wpAny_bind (hb.here ?_)))
  split
  · rename_i q
    have e : subIn K tb (.ref C) = some false := by
      rcases Bool.or_eq_true_iff.mp hn with e | e
      · rw [beq_iff_eq.mp e] at q; simp at q
      · exact beq_iff_eq.mp e
    refine wpAny_bind ((looks_subIn X e).here ?_)
    simp only [Bool.false_eq_true, if_false]
    refine wpAny_bind (wpAny_mono one (fun r s' z => ?_) fun _ _ e => e)
    obtain ⟨v, rfl, hq⟩ := z
    exact wpAny_pure hq
  · refine wpAny_bind (wpAny_pure ?_)
    simp only [Bool.false_eq_true, if_false]
    refine wpAny_bind (wpAny_mono one (fun r s' z => ?_) fun _ _ e => e)
    obtain ⟨v, rfl, hq⟩ := z
    exact wpAny_pure hq
/-- the right side's class is below the left one's: it is asked first -/
theorem rc_right {op : CmpOp} {Q : Value → Shared → Prop} {y D : Addr} {oy : Obj} {ody : Option Obj} (hu : A.units < cLine) (X : K.In s.heap) (I : InstAt s.heap x ox C od) (J : InstAt s.heap y oy D ody) (hne : D ≠ C) (hsub : mroIn K D (.ref C) = some true)
    (one : wpAny (model prog w) A (tryCompare (.ref y) (cmpInfo op).2.2 (.ref x)) (fun r s' => ∃ v, r = some v ∧ Q v s') E s) : wpAny (model prog w) A (richCompare op (.ref x) (.ref y)) Q E s := by
  unfold richCompare
  simp only [oneThing_ref]
  refine wpAny_holding (wpAny_bind (wpAny_cRoomFor hu ?_))
  refine wpAny_bind (I.type.here (wpAny_bind (J.type.here ?_)))
  have e : (Value.ref C != Value.ref D) = true := by simp [Ne.symm hne]
  rw [if_pos e]
  refine wpAny_bind ((looks_subIn (t := .ref D) X hsub).here ?_)
  simp only [if_true]
  refine wpAny_bind (wpAny_mono one (fun r s' z => ?_) fun _ _ e => e)
  obtain ⟨v, rfl, hq⟩ := z
  repeat (first | exact hq | exact wpAny_pure hq | wp_step)
end
end GB

namespace L2
open PySem PySem.Spec PyProof.Rows
/-- how two values are seen to be equal or not, by the abstract heap -/
abbrev EqvB := V → V → Hp → Bool → Prop
def MonB (D : EqvB) : Prop := ∀ x y H H' b, Ext H H' → D x y H b → D x y H' b
def EqB (X : Cx) (n : Nat) (D : EqvB) : Prop :=
  ∀ (A : Around) (pins : List (Addr × Obj)) (s : Shared) (σ : St) (H : Hp) (x y : V) (u v : Value) (b : Bool), Sub X n A → Inv X pins σ H s → RelV x u → RelV y v → D x y H b →
    wpAny (model X.prog X.w) A (eqBool u v) (fun r s' => r = b ∧ ∃ H', Inv X pins σ H' s' ∧ Ext H H') X.xe s
/-- ne = false: ==; ne = true: != -/
def opOf (ne : Bool) : CmpOp := if ne then .NotEq else .Eq
def RcB (X : Cx) (n : Nat) (ne : Bool) (D : EqvB) : Prop :=
  ∀ (A : Around) (pins : List (Addr × Obj)) (s : Shared) (σ : St) (H : Hp) (x y : V) (u v : Value) (b : Bool), Sub X n A → Inv X pins σ H s → RelV x u → RelV y v → D x y H b →
    wpAny (model X.prog X.w) A (richCompare (opOf ne) u v) (fun r s' => r = .bool (ne != b) ∧ ∃ H', Inv X pins σ H' s' ∧ Ext H H') X.xe s
section
variable {X : Cx} {n m : Nat} {ne : Bool} {D D' : EqvB}
theorem EqB.mono (h : EqB X n D) (hn : n ≤ m) : EqB X m D := fun A pins s σ H x y u v b sb => h A pins s σ H x y u v b (sb.mono hn)
theorem RcB.mono (h : RcB X n ne D) (hn : n ≤ m) : RcB X m ne D := fun A pins s σ H x y u v b sb => h A pins s σ H x y u v b (sb.mono hn)
theorem EqB.or (h : EqB X n D) (h' : EqB X n D') : EqB X n (fun x y H b => D x y H b ∨ D' x y H b) := fun A pins s σ H x y u v b sb I rx ry d => by
  rcases d with d | d
  · exact h A pins s σ H x y u v b sb I rx ry d
  · exact h' A pins s σ H x y u v b sb I rx ry d
theorem RcB.or (h : RcB X n ne D) (h' : RcB X n ne D') : RcB X n ne (fun x y H b => D x y H b ∨ D' x y H b) := fun A pins s σ H x y u v b sb I rx ry d => by
  rcases d with d | d
  · exact h A pins s σ H x y u v b sb I rx ry d
  · exact h' A pins s σ H x y u v b sb I rx ry d
theorem RcB.imp (h : RcB X n ne D) (hd : ∀ x y H b, D' x y H b → D x y H b) : RcB X n ne D' := fun A pins s σ H x y u v b sb I rx ry d => h A pins s σ H x y u v b sb I rx ry (hd x y H b d)
theorem MonB.or (h : MonB D) (h' : MonB D') : MonB (fun x y H b => D x y H b ∨ D' x y H b) := fun x y H H' b e d => d.elim (fun d => .inl (h x y H H' b e d)) fun d => .inr (h' x y H H' b e d)
/-- flat values -/
def DFl : EqvB := fun x y _ b => flatV x = true ∧ flatV y = true ∧ b = eqV x y
theorem monB_flat : MonB DFl := fun _ _ _ _ _ _ d => d
theorem eqB_flat : EqB X 0 DFl := by
  intro A pins s σ H x y u v b sb I rx ry d
  obtain ⟨fx, fy, rfl⟩ := d
  exact eqAt_V (A := A) (s := s) rx ry fx fy X.prog X.w X.xe _ ⟨rfl, H, I, Ext.rfl'⟩
/-- item by item, as e says -/
def PrsB (D : EqvB) (xs ys : List V) (H : Hp) (e : Nat → Bool) : Prop := ∀ (i : Nat) x y, xs[i]? = some x → ys[i]? = some y → D x y H (e i)
theorem PrsB.mon (hD : MonB D) {xs ys : List V} {H H' : Hp} {e : Nat → Bool} (x : Ext H H') (p : PrsB D xs ys H e) : PrsB D xs ys H' e := fun i a b h1 h2 => hD a b H H' _ x (p i a b h1 h2)
theorem turnB (hD : MonB D) (h : EqB X n D) {A : Around} (sb : Sub X (n + 1) A) {pins : List (Addr × Obj)} {σ : St} {H : Hp} {xs ys : List V} {e : Nat → Bool} {its its2 : List Value} (p : PrsB D xs ys H e) (r : Vals xs its) (r2 : Vals ys its2)
    (i : Nat) (h1 : i < its.toArray.size) (h2 : i < its2.toArray.size) (s' : Shared) (l : LoopI X pins σ H s') :
    wpAny (model X.prog X.w) A.in1 (eqBool its.toArray[i] its2.toArray[i]) (fun r s2 => r = e i ∧ LoopI X pins σ H s2) X.xe s' := by
  obtain ⟨H1, I1, e1⟩ := l
  have g1 : its[i]? = some its.toArray[i] := by
    have h1' : i < its.length := by simpa using h1
    rw [List.getElem?_eq_getElem h1'] <;> simp
  have g2 : its2[i]? = some its2.toArray[i] := by
    have h2' : i < its2.length := by simpa using h2
    rw [List.getElem?_eq_getElem h2'] <;> simp
  have k1 : i < xs.length := by rw [r.length]; simpa using h1
  have k2 : i < ys.length := by rw [r2.length]; simpa using h2
  obtain ⟨u, hu, ru⟩ := r.get (List.getElem?_eq_getElem k1)
  obtain ⟨v, hv, rv⟩ := r2.get (List.getElem?_eq_getElem k2)
  rw [g1] at hu
  rw [g2] at hv
  rw [Option.some.inj hu, Option.some.inj hv]
  refine wpAny_mono (h A.in1 pins s' σ H1 _ _ u v _ sb.in1 I1 ru rv (hD _ _ _ _ _ e1 (p i _ _ (List.getElem?_eq_getElem k1) (List.getElem?_eq_getElem k2)))) (fun r s2 q => ?_) fun _ _ x => x
  obtain ⟨hr, H2, I2, e2⟩ := q
  exact ⟨hr, H2, I2, e1.trans e2⟩
/-- two lists of one length; two tuples -/
def DLs (D : EqvB) : EqvB := fun x y H b => ∃ a c xs ys e, x = .ref a ∧ y = .ref c ∧ H a = some (.lst xs) ∧ H c = some (.lst ys) ∧ xs.length = ys.length ∧ PrsB D xs ys H e ∧ b = (List.range xs.length).all e
def DTp (K : PySem.W.Frag) (D : EqvB) : EqvB := fun x y H b => ∃ a c xs ys e, x = .ref a ∧ y = .ref c ∧ SqT K H a xs ∧ SqT K H c ys ∧ PrsB D xs ys H e ∧ b = ((List.range (min xs.length ys.length)).all e && xs.length == ys.length)
theorem monB_list (hD : MonB D) : MonB (DLs D) := fun x y H H' b ex d => by
  obtain ⟨a, c, xs, ys, e, hx, hy, h1, h2, hl, p, hb⟩ := d
  exact ⟨a, c, xs, ys, e, hx, hy, ex _ _ h1, ex _ _ h2, hl, p.mon hD ex, hb⟩
theorem monB_tup {K : PySem.W.Frag} (hD : MonB D) : MonB (DTp K D) := fun x y H H' b ex d => by
  obtain ⟨a, c, xs, ys, e, hx, hy, h1, h2, p, hb⟩ := d
  exact ⟨a, c, xs, ys, e, hx, hy, h1.ext ex, h2.ext ex, p.mon hD ex, hb⟩
theorem rcB_list (hD : MonB D) (h : EqB X n D) : RcB X (n + 1) ne (DLs D) := by
  intro A pins s σ H x y u v b sb I rx ry d
  obtain ⟨a, c, xs, ys, e, rfl, rfl, ha, hb, hl, p, rfl⟩ := d
  cases rx
  cases ry
  have hL : GB.ListB X.prog X.w A X.xe a c xs.length e (LoopI X pins σ H) := fun s' q => by
    obtain ⟨H1, I1, e1⟩ := id q
    obtain ⟨z, its, k, r, g⟩ := I1.hok a _ (e1 _ _ ha)
    obtain ⟨z2, its2, k2, r2, g2⟩ := I1.hok c _ (e1 _ _ hb)
    exact ⟨its.toArray, its2.toArray, k, k2, g, g2, by rw [List.size_toArray, ← r.length], by rw [List.size_toArray, ← r2.length, ← hl], fun i h1 h2 => turnB hD h sb p r r2 i h1 h2 s' q⟩
  obtain ⟨items, items2, n1, n2, hl1, hb1, _, _, _⟩ := hL s ⟨H, I, Ext.rfl'⟩
  cases ne with
  | false =>
    refine wpAny_richCompare_same_room (op := .Eq) ⟨_, hl1, rfl⟩ ⟨_, hb1, rfl⟩ F.slot_list_eq (GQ.call_here F.slot_list_eq ⟨_, hl1, rfl⟩ F.entry_list_eq (F.args_list_eq_2 _ _) ?_) sb.room.units0
    refine GB.list_eqB (R := wants (fun v s' => v ≠ .notImplemented ∧ v = .bool (false != (List.range xs.length).all e) ∧ ∃ H', Inv X pins σ H' s' ∧ Ext H H') X.xe) a c xs.length e (LoopI X pins σ H) hL (fun s' q => ⟨(fun z => nomatch z), by simp, q⟩) ⟨H, I, Ext.rfl'⟩
  | true =>
    refine wpAny_richCompare_same_room (op := .NotEq) ⟨_, hl1, rfl⟩ ⟨_, hb1, rfl⟩ F.slot_list_ne (GQ.call_here F.slot_list_ne ⟨_, hl1, rfl⟩ F.entry_list_ne (F.args_list_ne_2 _ _) ?_) sb.room.units0
    refine GB.list_neB (R := wants (fun v s' => v ≠ .notImplemented ∧ v = .bool (true != (List.range xs.length).all e) ∧ ∃ H', Inv X pins σ H' s' ∧ Ext H H') X.xe) a c xs.length e (LoopI X pins σ H) hL (fun s' q => ⟨(fun z => nomatch z), by cases (List.range xs.length).all e <;> rfl, q⟩) ⟨H, I, Ext.rfl'⟩
theorem rcB_tup (hD : MonB D) (h : EqB X n D) : RcB X (n + 1) ne (DTp X.K D) := by
  intro A pins s σ H x y u v b sb I rx ry d
  obtain ⟨a, c, xs, ys, e, rfl, rfl, ha, hb, p, rfl⟩ := d
  cases rx
  cases ry
  obtain ⟨its, r, g, z⟩ := I.tuple ha
  obtain ⟨its2, r2, g2, z2⟩ := I.tuple hb
  obtain ⟨⟨cls, dd, data, sl⟩, ho, hc, k, hd⟩ := id g
  obtain ⟨⟨cls2, dd2, data2, sl2⟩, ho2, hc2, k2, hd2⟩ := id g2
  simp only at hc hd hc2 hd2
  subst hc hd hc2 hd2
  have s1 : its.toArray.size = xs.length := by rw [List.size_toArray, ← r.length]
  have s2 : its2.toArray.size = ys.length := by rw [List.size_toArray, ← r2.length]
  cases ne with
  | false =>
    refine wpAny_richCompare_same_room (op := .Eq) ⟨_, ho, rfl⟩ ⟨_, ho2, rfl⟩ F.slot_tuple_eq (GQ.call_here F.slot_tuple_eq ⟨_, ho, rfl⟩ F.entry_tuple_eq (F.args_tuple_eq_2 _ _) ?_) sb.room.units0
    refine GB.tuple_eqB (R := wants (fun v s' => v ≠ .notImplemented ∧ v = .bool (false != ((List.range (min xs.length ys.length)).all e && xs.length == ys.length)) ∧ ∃ H', Inv X pins σ H' s' ∧ Ext H H') X.xe) a c its.toArray its2.toArray k k2 dd dd2 sl sl2 e (LoopI X pins σ H)
      (fun i h1 h2 s' q => turnB hD h sb p r r2 i h1 h2 s' q) (fun s' q => ⟨(fun z => nomatch z), by rw [s1, s2]; simp, q⟩) ho ho2 ⟨H, I, Ext.rfl'⟩
  | true =>
    refine wpAny_richCompare_same_room (op := .NotEq) ⟨_, ho, rfl⟩ ⟨_, ho2, rfl⟩ F.slot_tuple_ne (GQ.call_here F.slot_tuple_ne ⟨_, ho, rfl⟩ F.entry_tuple_ne (F.args_tuple_ne_2 _ _) ?_) sb.room.units0
    refine GB.tuple_neB (R := wants (fun v s' => v ≠ .notImplemented ∧ v = .bool (true != ((List.range (min xs.length ys.length)).all e && xs.length == ys.length)) ∧ ∃ H', Inv X pins σ H' s' ∧ Ext H H') X.xe) a c its.toArray its2.toArray k k2 dd dd2 sl sl2 e (LoopI X pins σ H)
      (fun i h1 h2 s' q => turnB hD h sb p r r2 i h1 h2 s' q) (fun s' q => ⟨(fun z => nomatch z), by rw [s1, s2]; cases ((List.range (min xs.length ys.length)).all e && xs.length == ys.length) <;> rfl, q⟩) ho ho2 ⟨H, I, Ext.rfl'⟩

/-- the type of the other side -/
inductive TyY (H : Hp) : V → Value → Prop where
  | non : TyY H .non (.type "NoneType")
  | bl (x : Bool) : TyY H (.bl x) (.type "bool")
  | int (i : Int) : TyY H (.int i) (.type "int")
  | str (x : Str) : TyY H (.str x) (.type "str")
  | tup {a : Addr} {xs : List V} (e : H a = some (.tup xs)) : TyY H (.ref a) (.type "tuple")
  | lst {a : Addr} {xs : List V} (e : H a = some (.lst xs)) : TyY H (.ref a) (.type "list")
  | dK {a : Addr} {kvs : List (Key × V)} (e : H a = some (.dK kvs)) : TyY H (.ref a) (.type "dict")
  | ins {a C dx : Addr} {fs : List (Str × V)} (e : H a = some (.ins C dx fs)) : TyY H (.ref a) (.ref C)
theorem TyY.mon {H H' : Hp} {y : V} {t : Value} (e : Ext H H') (h : TyY H y t) : TyY H' y t := by
  cases h with
  | non => exact .non
  | bl x => exact .bl x
  | int i => exact .int i
  | str x => exact .str x
  | tup h => exact .tup (e _ _ h)
  | lst h => exact .lst (e _ _ h)
  | dK h => exact .dK (e _ _ h)
  | ins h => exact .ins (e _ _ h)
theorem typeOf_at {M : Model} {h : Heap} {a : Addr} {o : Obj} (e : h.get? a = some o) : PySem.W.Looks M h (typeOf (.ref a)) o.cls := (PySem.W.Looks.ld (part := none) e).andThen .now
theorem TyY.looks {pins : List (Addr × Obj)} {σ : St} {H : Hp} {s : Shared} {M : Model} {y : V} {v t : Value} (I : Inv X pins σ H s) (ry : RelV y v) (h : TyY H y t) : PySem.W.Looks M s.heap (typeOf v) t := by
  cases h with
  | non => cases ry; exact PySem.W.Looks.of_pure rfl
  | bl x => cases ry; exact PySem.W.Looks.of_pure rfl
  | int i => obtain ⟨t, rfl⟩ := ry; exact PySem.W.Looks.of_pure rfl
  | str x => obtain ⟨t, rfl⟩ := ry; exact PySem.W.Looks.of_pure rfl
  | @tup a xs e =>
    cases ry
    obtain ⟨_, _, _, o, h1, h2, _⟩ := (show ObjOk X.prog X.w H s.heap a (.tup xs) from I.hok a _ e)
    rw [← h2]
    exact typeOf_at h1
  | @lst a xs e =>
    cases ry
    obtain ⟨_, _, _, _, h1⟩ := (show ObjOk X.prog X.w H s.heap a (.lst xs) from I.hok a _ e)
    exact typeOf_at h1
  | @dK a kvs e =>
    cases ry
    obtain ⟨_, _, vs, _, o, es, ep, h1, h2, _⟩ := (show ObjOk X.prog X.w H s.heap a (.dK kvs) from I.hok a _ e)
    have := h2.1
    rw [← this]
    exact typeOf_at h1
  | @ins a C dx fs e =>
    cases ry
    obtain ⟨mA, O, _⟩ := ins_get I.hok e
    obtain ⟨od, J, _⟩ := O.look
    exact J.type
/-- an own class with __eq__ at f, != left to object -/
structure OwnE (K : PySem.W.Frag) (C f : Addr) : Prop where
  eq : PySem.W.findIn K (.ref C) "__eq__" = some (some (.ref f))
  ne : PySem.W.findIn K (.ref C) "__ne__" = some (some (.builtin "object.__ne__"))
  ob : PySem.W.mroIn K C (.type "object") = some true
/-- what the own == promises: it only makes objects -/
def spEqB (R : EqvB) : Sp := fun vs H Q _ => ∃ x y b, vs = [x, y] ∧ R x y H b ∧ ∀ H', Ext H H' → Q (.bl b) H'
/-- instances by an own __eq__ at f: the left one is asked, or the right one, if its class is below -/
def DOw (K : PySem.W.Frag) (f : Addr) (R : EqvB) : EqvB := fun x y H b => ∃ a C dx fs, x = .ref a ∧ H a = some (.ins C dx fs) ∧
  ((∃ t, TyY H y t ∧ OwnE K C f ∧ PySem.W.notFirst K C t = true ∧ R x y H b) ∨
   (∃ c D dy gs, y = .ref c ∧ H c = some (.ins D dy gs) ∧ D ≠ C ∧ PySem.W.mroIn K D (.ref C) = some true ∧ OwnE K D f ∧ R y x H b))
theorem monB_own {K : PySem.W.Frag} {f : Addr} {R : EqvB} (hR : MonB R) : MonB (DOw K f R) := fun x y H H' b ex d => by
  obtain ⟨a, C, dx, fs, hx, h1, d⟩ := d
  refine ⟨a, C, dx, fs, hx, ex _ _ h1, ?_⟩
  rcases d with ⟨t, ty, o, nf, r⟩ | ⟨c, D, dy, gs, hy, h2, ne, sb, o, r⟩
  · exact .inl ⟨t, ty.mon ex, o, nf, hR _ _ _ _ _ ex r⟩
  · exact .inr ⟨c, D, dy, gs, hy, ex _ _ h2, ne, sb, o, hR _ _ _ _ _ ex r⟩
theorem in1_units {A : Around} (h : A.units + 64 < cLine) : A.in1.units < cLine := by
  have e : A.in1.units = A.units + 1 := rfl
  omega
theorem rcB_own {CX : CXT} {f : Addr} {fd : FuncData} {ps : List Str} {R : EqvB} {E : XK} (F : FnOk X.prog X.w X.K X.mg X.base CX n f fd ps (spEqB R)) (hf : PySem.W.isFn X.K (.ref f) = true) (hb : Binds X.K fd ps []) (hx : Passes CX X E) : RcB X (n + 1) ne (DOw X.K f R) := by
  intro A pins s σ H x y u v b sb I rx ry d
  obtain ⟨a, C, dx, fs, rfl, ha, d⟩ := d
  cases rx
  obtain ⟨mA, O, _⟩ := ins_get I.hok ha
  obtain ⟨od, J, _⟩ := O.look
  have KX := I.kIn
  -- the call of f upon two values
  have call : ∀ (A' : Around) (p q : V) (u' v' : Value) (P : Value → Shared → Prop), Sub X n A' → RelV p u' → RelV q v' → R p q H b → (∀ s' H', Inv X pins σ H' s' → Ext H H' → P (.bool b) s') →
      wpAny (model X.prog X.w) A' (call (.ref f) [u', v']) P X.xe s := by
    intro A' p q u' v' P sb' rp rq hr hP
    have hsp : spEqB R [p, q] H (fun v H' => v = .bl b ∧ Ext H H') E := ⟨p, q, b, rfl, hr, fun H' e => ⟨rfl, e⟩⟩
    have e0 : Env0 X.prog X.w X.K X.mg X.base A' X.stack s H := by
      have e := I.env0
      exact ⟨by rw [sb'.fr]; exact e.frames, e.mod, e.bs, e.bsz, e.funs, e.frf, e.hok, e.bare⟩
    have hl := F.len _ _ _ _ hsp
    have r2 : Vals [p, q] [u', v'] := .cons rp (.cons rq .nil)
    refine wpAny_call (codeAny_mono (F.run A' X.stack s H ⟨[u', v'], []⟩ [u', v'] [p, q] _ E sb'.room e0 (by
      have := hb s [u', v'] I.kIn (by simpa using hl)
      simpa using this) r2 hsp) fun r s' hq => ?_)
    cases r with
    | error e => exact hx pins σ H s e s' I hq
    | ok fl =>
      cases fl with
      | ret w =>
        obtain ⟨z, H', I', rz, ez, ex⟩ := I.after hq
        subst ez
        cases rz
        exact hP s' H' I' ex
      | next => exact False.elim hq
      | brk => exact False.elim hq
      | cont => exact False.elim hq
  rcases d with ⟨t, ty, o, nf, hr⟩ | ⟨c, D, dy, gs, rfl, hc, hne, hsub, o, hr⟩
  · refine GB.rc_left (op := opOf ne) sb.room.units0 KX J (ty.looks I ry) nf ?_
    cases ne with
    | false => exact GB.tc_eq KX J o.eq hf (call A (.ref a) y _ _ _ (sb.mono (Nat.le_succ n)) rfl ry hr fun s' H' I' ex => ⟨b, rfl, _, rfl, by simp, H', I', ex⟩)
    | true => exact GB.tc_ne KX J o.eq hf o.ne o.ob (in1_units sb.room.units) (call A.in1 (.ref a) y _ _ _ sb.in1 rfl ry hr fun s' H' I' ex => ⟨b, rfl, _, rfl, by cases b <;> rfl, H', I', ex⟩)
  · cases ry
    obtain ⟨mB, O', _⟩ := ins_get I.hok hc
    obtain ⟨od', J', _⟩ := O'.look
    refine GB.rc_right (op := opOf ne) sb.room.units0 KX J J' hne hsub ?_
    cases ne with
    | false => exact GB.tc_eq KX J' o.eq hf (call A (.ref c) (.ref a) _ _ _ (sb.mono (Nat.le_succ n)) rfl rfl hr fun s' H' I' ex => ⟨b, rfl, _, rfl, by simp, H', I', ex⟩)
    | true => exact GB.tc_ne KX J' o.eq hf o.ne o.ob (in1_units sb.room.units) (call A.in1 (.ref c) (.ref a) _ _ _ sb.in1 rfl rfl hr fun s' H' I' ex => ⟨b, rfl, _, rfl, by cases b <;> rfl, H', I', ex⟩)
/-- from a rich comparison of references to == inside a list or tuple: an object is equal to itself, so D must say so -/
theorem RcB.eqB (h : RcB X n false D) (hr : ∀ x y H b, D x y H b → ∃ a c, x = .ref a ∧ y = .ref c ∧ (a = c → b = true)) : EqB X n D := by
  intro A pins s σ H x y u v b sb I rx ry d
  obtain ⟨a, c, rfl, rfl, hac⟩ := hr _ _ _ _ d
  cases rx
  cases ry
  by_cases hab : a = c
  · subst hab
    rw [hac rfl]
    exact SeqAt.EqAt.same (A := A) (s := s) (.ref a) X.prog X.w X.xe _ ⟨rfl, H, I, Ext.rfl'⟩
  · refine GQ.eqBool_refG hab (wpAny_mono (h A pins s σ H (.ref a) (.ref c) _ _ b sb I rfl rfl d) (fun r s' q => ?_) fun _ _ x => x)
    obtain ⟨hr', q⟩ := q
    exact ⟨b, by rw [hr']; simp, rfl, q⟩
/-- x == y, x != y as an expression -/
def rCmpB (ne : Bool) (D : EqvB) : R2 := fun x y H Q => ∃ b, D x y H b ∧ ∀ H', Ext H H' → Q (.bl (ne != b)) H'
theorem op_cmpB (h : RcB X n ne D) (hr : Room n X.A) : OpR X (compareOp (opOf ne)) (rCmpB ne D) := by
  intro pins s σ H x y v u Q I rx ry hq
  obtain ⟨b, d, q⟩ := hq
  have e : compareOp (opOf ne) v u = richCompare (opOf ne) v u := by cases ne <;> rfl
  rw [e]
  refine wpAny_mono (h X.A pins s σ H x y v u b ⟨hr, rfl⟩ I rx ry d) (fun r s' z => ?_) fun _ _ x => x
  obtain ⟨hr', H', I', e⟩ := z
  subst hr'
  exact ⟨.bl (ne != b), H', I', rfl, q H' e⟩
end
end L2

/-! Own classes: what the text says of a class, C() without __init__, isinstance, fields and constants and methods by the value's own class. -/
namespace L2
open PySem PySem.Spec PyProof.Rows
/-- the facts of an own class -/
structure OCls (K : PySem.W.Frag) (C : Addr) : Prop where
  cl : Cls K C
  ha : PySem.W.findIn K (.ref C) "__class__" = some (some (.builtin "object.__class__"))
  hn : PySem.W.specialIn K (.builtin "object.__class__") "__get__" = some (some (.builtin "getset_descriptor.__get__"))
  tk : PySem.W.takesIn K (.builtin "object.__class__") = some true
  hm : PySem.W.mroIn K C (.type "object") = some true
  ic : PySem.W.isClsIn K C = true
  ty : PySem.W.typeIn K (.ref C) = some (.type "type")
theorem OCls.ins {K : PySem.W.Frag} {C : Addr} (c : OCls K C) {H : Hp} {a dx : Addr} {fs : List (Str × V)} (e : H a = some (.ins C dx fs)) : TyX K H (.ref a) (.ref C) := .base (.ins e c.cl c.ha c.hn c.tk c.hm)
theorem OCls.kit {K : PySem.W.Frag} {C : Addr} (c : OCls K C) {t : Value} {b : Bool} (h : PySem.W.subIn K t (.ref C) = some b) (he : t = .ref C → b = true) : PySem.W.kitOne K t (.ref C) = some b := by
  unfold PySem.W.kitOne
  by_cases e : (t == Value.ref C) = true
  · rw [if_pos e, he (eq_of_beq e)]
  · rw [if_neg e]
    unfold PySem.W.kitCls
    have h1 : (PySem.W.clsIn K C).isSome = true := c.ic
    have h2 : (PySem.W.typeIn K (.ref C) == some (.type "type")) = true := by rw [c.ty]; simp
    show (if ((PySem.W.clsIn K C).isSome && PySem.W.typeIn K (.ref C) == some (.type "type")) = true then PySem.W.subIn K t (.ref C) else none) = some b
    rw [h1, h2]
    exact h
def rIsiC (K : PySem.W.Frag) : List V → Hp → VK → Prop := fun xs H Q => match xs with
  | [x, .ref C] => ∃ t b, TyX K H x t ∧ PySem.W.kitOne K t (.ref C) = some b ∧ Q (.bl b) H
  | [x, .ty n] => ∃ t b, TyX K H x t ∧ PySem.W.kitOne K t (.type n) = some b ∧ Q (.bl b) H
  | _ => False
/-- C() of a class without an __init__ -/
def tNewN (C : Addr) : TE := fun _ H Q => ∀ x dx, H x = none → H dx = none → dx ≠ x → Q (.ref x) (upd (upd H dx (.own x)) x (.ins C dx []))
structure MkN (K : PySem.W.Frag) (C : Addr) : Prop where
  makes : PySem.W.makesIn K C = true
  init : PySem.W.findIn K (.ref C) "__init__" = some (some (.builtin "object.__init__"))
  kp : PySem.W.keepIn K (.ref C) = true
section
variable {X : Cx} {C : Addr} {x : Str} {p pos : Pos}
theorem cc_isi {K : PySem.W.Frag} (hK : X.K = K := by rfl) : CallR X (.builtin "isinstance") (rIsiC K) := hK ▸ call_isi.weak fun xs H Q h => by
  unfold rIsiC at h
  split at h
  · obtain ⟨t, b, ty, e, q⟩ := h; exact ⟨_, _, t, _, b, rfl, .own _, ty, e, q⟩
  · obtain ⟨t, b, ty, e, q⟩ := h; exact ⟨_, _, t, _, b, rfl, .ty _, ty, e, q⟩
  · exact h.elim
theorem run_newN {pins : List (Addr × Obj)} {σ : St} {H : Hp} {s : Shared} {Q : VK} (M : MkN X.K C) (I : Inv X pins σ H s) (h : tNewN C σ H Q) : wpAny (model X.prog X.w) X.A (call (.ref C) []) (EP X pins σ Q) X.xe s := by
  have hq := h (s.heap.objs.size + 1) s.heap.objs.size (I.hok.fresh (Nat.le_succ _)) (I.hok.fresh (Nat.le_refl _)) (Nat.ne_of_lt (Nat.lt_succ_self _))
  have I2 := Inv.made (C := C) I
  refine wpAny_call (make_map0 I.kIn M.makes M.init (fun self => PySem.W.Looks.of_pure (PySem.W.oi_bind self)) ?_)
  have Y := PySem.W.makes_of (M := model X.prog X.w) I.kIn M.makes
  have t1 : PySem.W.Looks (model X.prog X.w) ((s.heap.push PySem.W.emptyDict).push (PySem.W.instObj C s.heap.objs.size)) (typeOf (.ref (s.heap.objs.size + 1))) (.ref C) := by
    refine typeOf_at (o := PySem.W.instObj C s.heap.objs.size) ?_
    have := Heap.get?_push_at (h := s.heap.push PySem.W.emptyDict) (o := PySem.W.instObj C s.heap.objs.size) rfl rfl
    rw [Heap.size_push] at this
    exact this
  have t2 : PySem.W.Looks (model X.prog X.w) ((s.heap.push PySem.W.emptyDict).push (PySem.W.instObj C s.heap.objs.size)) (isInstance (.ref (s.heap.objs.size + 1)) (.type "object")) true := t1.andThen (Y.top.keeps fun b o e => Heap.get?_push_of_some _ (Heap.get?_push_of_some _ e))
  refine codeAny_call_builtin PySem.W.oi_plain PySem.W.entry_oi (@PySem.W.check_slot (model X.prog X.w) _ _ _ "object.__init__" "object" "__init__" (.ref (s.heap.objs.size + 1)) [] [] _ PySem.W.oi_kind PySem.W.oi_split t2 (PySem.W.oi_args (.ref (s.heap.objs.size + 1))) ?_)
  rw [PySem.W.oi_run]
  exact wpAny_pure (And.intro rfl ⟨V.ref (s.heap.objs.size + 1), _, I2, rfl, hq⟩)
theorem pe_newN (M : MkN X.K C) (hg : Gl X x) (hm : X.mg x = some (.ref C)) (hdb : (x == ("__debug__" : Str)) = false := by decide) : PE X (.Call (.Name x p) [] [] pos) (tNewN C) := by
  refine ⟨fun pins s σ H Q I h => ?_⟩
  refine wpAny_Call_Name_kw (ld_glob I hg hm ?_ hdb)
  exact PySem.W.callWith_K0 I.kIn M.kp (run_newN M I h)
end
/-! ### attributes, by the object's own class -/
def tFldC (K : PySem.W.Frag) (ta : TE) (f : Str) : TE := fun σ H Q => ta σ H fun x H1 => match x with
  | .ref a => ∃ C dx fs v, H1 a = some (.ins C dx fs) ∧ Cls K C ∧ NoAttr K C f ∧ fs.lookup f = some v ∧ Q v H1
  | _ => False
def tConC (K : PySem.W.Frag) (ta : TE) (f : Str) : TE := fun σ H Q => ta σ H fun x H1 => match x with
  | .ref a => ∃ C dx fs v u, H1 a = some (.ins C dx fs) ∧ Cls K C ∧ Con K C f v u ∧ fs.lookup f = none ∧ Q v H1
  | _ => False
def sFldC (K : PySem.W.Frag) (ta tv : TE) (f : Str) : TS := fun D σ H => tv σ H fun y H1 => ta σ H1 fun x H2 => match x with
  | .ref a => ∃ C dx fs, H2 a = some (.ins C dx fs) ∧ Cls K C ∧ NoAttr K C f ∧ fs.length < 1000 ∧ D.nx σ (upd H2 a (.ins C dx (putF f y fs)))
  | _ => False
theorem rf_fun {f : Addr → Hp → Prop} {g : V → Hp → Prop} (e : ∀ a H, f a H ↔ g (.ref a) H) : (fun (x : V) (H1 : Hp) => match x with | .ref a => f a H1 | _ => False) = (fun (x : V) (H1 : Hp) => match x with | .ref a => g (.ref a) H1 | _ => False) := by
  funext x H1
  cases x with
  | ref a => exact propext (e a H1)
  | _ => rfl
theorem PE.rfc {X : Cx} {e : Expr} {te : TE} (h : PE X e te) : PE X e (fun σ H Q => te σ H fun x H1 => match x with | .ref a => Q (.ref a) H1 | _ => False) := ⟨fun pins s σ H Q I q => by
  refine thn (h.run pins s σ H _ I q) fun v s1 hv => ?_
  obtain ⟨x, H1, I1, r1, q1⟩ := hv
  cases x with
  | ref k => exact ⟨_, H1, I1, r1, q1⟩
  | _ => exact q1.elim⟩
section
variable {X : Cx} {e o value : Expr} {ta tv : TE} {f : Str} {pos pos' : Pos}
theorem ce_fld {K : PySem.W.Frag} (he : PE X e ta) (hb : attributeBase e f X.env (eval e X.env) = eval e X.env) (hK : X.K = K := by rfl) : PE X (.Attribute e f pos) (tFldC K ta f) := by
  subst hK
  refine (pe_fld he.rfc hb).weak fun σ H Q h => ?_
  have h' : ta σ H fun x H1 => match x with | .ref a => ∃ C dx fs v, H1 a = some (.ins C dx fs) ∧ Cls X.K C ∧ NoAttr X.K C f ∧ fs.lookup f = some v ∧ Q v H1 | _ => False := h
  rw [rf_fun (g := fun x H1 => ∃ a C dx fs v, x = .ref a ∧ H1 a = some (.ins C dx fs) ∧ Cls X.K C ∧ NoAttr X.K C f ∧ fs.lookup f = some v ∧ Q v H1) (fun a H1 => ⟨fun ⟨C, dx, fs, v, q⟩ => ⟨a, C, dx, fs, v, rfl, q⟩, fun ⟨a', C, dx, fs, v, e, q⟩ => by cases e; exact ⟨C, dx, fs, v, q⟩⟩)] at h'
  exact h'
theorem ce_con {K : PySem.W.Frag} (he : PE X e ta) (hb : attributeBase e f X.env (eval e X.env) = eval e X.env) (hK : X.K = K := by rfl) : PE X (.Attribute e f pos) (tConC K ta f) := by
  subst hK
  refine (pe_con he.rfc hb).weak fun σ H Q h => ?_
  have h' : ta σ H fun x H1 => match x with | .ref a => ∃ C dx fs v u, H1 a = some (.ins C dx fs) ∧ Cls X.K C ∧ Con X.K C f v u ∧ fs.lookup f = none ∧ Q v H1 | _ => False := h
  rw [rf_fun (g := fun x H1 => ∃ a C dx fs v u, x = .ref a ∧ H1 a = some (.ins C dx fs) ∧ Cls X.K C ∧ Con X.K C f v u ∧ fs.lookup f = none ∧ Q v H1) (fun a H1 => ⟨fun ⟨C, dx, fs, v, u, q⟩ => ⟨a, C, dx, fs, v, u, rfl, q⟩, fun ⟨a', C, dx, fs, v, u, e, q⟩ => by cases e; exact ⟨C, dx, fs, v, u, q⟩⟩)] at h'
  exact h'
theorem cs_fld {K : PySem.W.Frag} (ha : PE X o ta) (hv : PE X value tv) (hs : swapsWith value (some (.Attribute o f pos')) pos.line X.env = pure false) (hK : X.K = K := by rfl) : PS X (.Assign [.Attribute o f pos'] value pos) (sFldC K ta tv f) := by
  subst hK
  refine (ps_fld ha.rfc hv hs).weak fun D σ H h => ?_
  have h' : tv σ H fun y H1 => ta σ H1 fun x H2 => match x with | .ref a => ∃ C dx fs, H2 a = some (.ins C dx fs) ∧ Cls X.K C ∧ NoAttr X.K C f ∧ fs.length < 1000 ∧ D.nx σ (upd H2 a (.ins C dx (putF f y fs))) | _ => False := h
  have eq : (fun (y : V) (H1 : Hp) => ta σ H1 fun x H2 => match x with | .ref a => ∃ C dx fs, H2 a = some (.ins C dx fs) ∧ Cls X.K C ∧ NoAttr X.K C f ∧ fs.length < 1000 ∧ D.nx σ (upd H2 a (.ins C dx (putF f y fs))) | _ => False)
      = (fun (y : V) (H1 : Hp) => ta σ H1 fun x H2 => match x with | .ref a => (fun (x : V) (H2 : Hp) => ∃ a C dx fs, x = .ref a ∧ H2 a = some (.ins C dx fs) ∧ Cls X.K C ∧ NoAttr X.K C f ∧ fs.length < 1000 ∧ D.nx σ (upd H2 a (.ins C dx (putF f y fs)))) (.ref a) H2 | _ => False) := by
    funext y H1
    rw [rf_fun (g := fun x H2 => ∃ a C dx fs, x = .ref a ∧ H2 a = some (.ins C dx fs) ∧ Cls X.K C ∧ NoAttr X.K C f ∧ fs.length < 1000 ∧ D.nx σ (upd H2 a (.ins C dx (putF f y fs)))) (fun a H1 => ⟨fun ⟨C, dx, fs, q⟩ => ⟨a, C, dx, fs, rfl, q⟩, fun ⟨a', C, dx, fs, e, q⟩ => by cases e; exact ⟨C, dx, fs, q⟩⟩)]
  rw [eq] at h'
  exact h'
end
/-- o.m(..), the object's class one of some: i tells which -/
def tMethC (K : PySem.W.Frag) (C : Addr) (m : Str) (sp : Sp) (dvs : List V) (E : XK) (ta : TE) (t : TA) : TE := fun σ H Q => ta σ H fun x H1 => match x with
  | .ref a => ∃ dx fs, H1 a = some (.ins C dx fs) ∧ fs.lookup m = none ∧ t σ H1 fun vs H2 => sp (.ref a :: vs ++ dvs) H2 Q E
  | _ => False
end L2
namespace L2
open PySem PySem.Spec PyProof.Rows
section
variable {P : Program} {w : World} {K : PySem.W.Frag} {mg : Str → Option Value} {base : Heap}
theorem FunS.binds {x qual : Str} {st : Stmt} {f cda D : Addr} {fd : FuncData} {ps : List Str} (F : FunS K x qual st f cda D fd)
    (h : ∀ (kV doc pm : Value) (an : Option Addr) (ct : Value) (cc : Addr) (us : List Value), us.length = ps.length → bindArgs (PySem.W.ksFn x qual (defArgs st) (defBody st) (defScope st) .none kV doc pm an (.ref cda) ct cc) ⟨us, []⟩ = pure (ps.zip us)) : Binds K fd ps [] := by
  obtain ⟨oc, od, kV, doc, pm, an, ct, osl, cc, cl, cld, csl, rfl, _⟩ := F.ex
  exact .all (h kV doc pm an ct cc)
theorem funS_mk {x qual : Str} {st : Stmt} {f cda D cc : Addr} {oc : Value} {od an : Option Addr} {osl : Array (Option Value)} {kV doc pm ct cl : Value} {cld : Option Addr} {csl : Array (Option Value)}
    (l : K.lookup f = some ⟨oc, od, .func (PySem.W.ksFn x qual (defArgs st) (defBody st) (defScope st) .none kV doc pm an (.ref cda) ct cc), osl⟩)
    (c : PySem.W.codeIn K (.ref cda) qual = true) (hc : K.lookup cc = some ⟨cl, cld, .cell (some (.ref D)), csl⟩) (k : PySem.W.keepIn K (.ref f) = true) :
    FunS K x qual st f cda D (PySem.W.ksFn x qual (defArgs st) (defBody st) (defScope st) .none kV doc pm an (.ref cda) ct cc) := ⟨⟨oc, od, kV, doc, pm, an, ct, osl, cc, cl, cld, csl, rfl, l, c, hc⟩, k⟩
end
end L2

/-! An own exception class called with keywords: type.__call__, ValueError.__new__, the own __init__. -/
namespace PySem
namespace OEK
open PySem.W PySem.Calls PyProof.Rows PySem.HandSPX
open Builtin Builtin.ObjectAttr
section
variable {M : Model} {A : Around} {E : Value → Shared → Prop} {h : Heap} {g : Array GenState} {d : Drawn} {t : Nat} {os : OsState}
variable {nm q : Str} {C N : Addr} {bs bm bmB : List Value} {hdct : Bool} {sn : List Str} {sub : List Value} {ab : Bool} {col : Option Bool} {dd : Option Addr} {k0 k1 k2 k3 k5 : Option Value} {B newId initId : String}
theorem check_new_kw (F : ExcBaseFacts B newId initId bmB) (hT : ∀ X : String, bm.contains (.type X) = bmB.contains (.type X)) {rest : List Value} {kw : List (Str × Value)} {Q : Unit → Shared → Prop}
    (hC : h.get? C = some (excClassObj nm q C N bs bm hdct sn sub ab col dd k0 k1 k2 k3 k5 newId)) (hq : Q () ⟨h, g, d, t, os⟩) : wpAny M A (checkBuiltinCall newId ⟨.ref C :: rest, kw⟩) Q E ⟨h, g, d, t, os⟩ := by
  have hcont : (Value.ref C :: bm).contains (.type B) = true := by rw [List.contains_cons, hT, F.hasB, Bool.or_true]
  have hstar := F.noStar
  simp only [checkBuiltinCall, F.newKind, F.newSplit, F.newRow]
  repeat (first | refine wpAny_loadPart_at hC ?_ | (refine wpAny_isSubtype_exc hC ?_; rw [hcont]) | refine wpAny_staticBase_exc hC ?_ | refine wpAny_madeBy_exc hC ?_ | simp only [bne_self_eq_false, Bool.false_eq_true, if_false] | wp_step)
  exact hq
end
section
variable {prog : Program} {w : World} {A : Around} {E : Value → Shared → Prop} {R : Result → Shared → Prop} {h : Heap} {g : Array GenState} {d : Drawn} {t : Nat} {os : OsState}
variable {nm q : Str} {C N : Addr} {bs bm bmB : List Value} {hdct : Bool} {sn : List Str} {sub : List Value} {ab : Bool} {col : Option Bool} {dd : Option Addr} {k0 k1 k2 k3 k5 : Option Value} {B newId initId : String}
theorem new_kw (F : ExcBaseFacts B newId initId bmB) (hT : ∀ X : String, bm.contains (.type X) = bmB.contains (.type X)) {rest : List Value} {kw : List (Str × Value)}
    (hC : h.get? C = some (excClassObj nm q C N bs bm hdct sn sub ab col dd k0 k1 k2 k3 k5 newId))
    (hq : R (.ok (.ret (.ref (h.objs.size + 1)))) ⟨(h.push { cls := .type "tuple", data := .seq rest.toArray }).push
      { cls := .ref C, data := .fields #[.ref h.objs.size, .none, .none, .none, .bool false, .none] }, g, d, t, os⟩) (hrest : rest.length ≤ sizeLine) :
    codeAny (model prog w) A (.builtin newId ⟨.ref C :: rest, kw⟩) R ⟨h, g, d, t, os⟩ := by
  have hends := F.ends
  have hcB : (Value.ref C :: bm).contains (.type B) = true := by rw [List.contains_cons, hT, F.hasB, Bool.or_true]
  have hcA : (Value.ref C :: bm).contains (.type "AttributeError") = false := by rw [List.contains_cons, hT, F.noAttr]; rfl
  have hcN : (Value.ref C :: bm).contains (.type "NameError") = false := by rw [List.contains_cons, hT, F.noName]; rfl
  refine codeAny_builtinAt F.entry ?_
  unfold Builtin.«BaseException.__new__»
  refine wpAt_bind ?_
  show wpAt _ _ _ (stack >>= _) _ _ _
  refine wpAt_bind (wpAt_stack fun p below => wpAt_of_wpAny ?_)
  wp_walk
  refine wpAt_of_wpAny ?_
  rw [F.owner]
  repeat (first | with_reducible refine wpAny_madeHere_exc F.canon hC ?_ | with_reducible refine wpAny_loadPart_at hC ?_ | (with_reducible refine wpAny_isSubtype_exc hC ?_; first | rw [hcB] | rw [hcA] | rw [hcN]) | wp_step)
  show R _ _
  rw [Heap.size_push]
  exact hq

theorem type_call_kw (F : ExcBaseFacts B newId initId bmB) (hT : ∀ X : String, bm.contains (.type X) = bmB.contains (.type X)) {rest : List Value} {kw : List (Str × Value)} {fI : Addr} {Q : Fin → Shared → Prop}
    (hC : h.get? C = some (excClassObj nm q C N bs bm hdct sn sub ab col dd k0 k1 k2 k3 k5 newId))
    (hi : W.Looks (model prog w) h (typeLookup (.ref C) "__init__") (some (.ref fI))) (hb : ∀ self, W.Looks (model prog w) h (bindSpecial (.ref fI) self) (.ref fI, [self])) (hrest : rest.length ≤ sizeLine)
    (hq : codeAny (model prog w) A (.call (.ref fI) ⟨.ref (h.objs.size + 1) :: rest, kw⟩)
      (fun r s' => match r with | .ok (.ret v) => v = .none ∧ Q (.done (.ret (.ref (h.objs.size + 1)))) s' | .ok _ => False | .error e => E e s')
      ⟨(h.push (W.kdv_tup rest)).push (excO C h.objs.size), g, d, t, os⟩) :
    wpAny (model prog w) A (Builtin.«type.__call__» ⟨.ref C :: rest, kw⟩) Q E ⟨h, g, d, t, os⟩ := by
  repeat (first | with_reducible refine wpAny_loadPart_at hC ?_ | with_reducible refine wpAny_madeBy_exc hC ?_ | wp_step)
  refine codeAny_call_builtin_code (Code.quiet_builtin _ F.quiet) (check_new_kw F hT hC ?_)
  refine new_kw F hT hC ?_ hrest
  show wpAny _ _ _ _ _ _
  have k : ∀ b o, h.get? b = some o → ((h.push (W.kdv_tup rest)).push (excO C h.objs.size)).get? b = some o := fun b o e => Heap.get?_push_of_some _ (Heap.get?_push_of_some _ e)
  have hC₁ := k _ _ hC
  have hget : ((h.push (W.kdv_tup rest)).push (excO C h.objs.size)).get? (h.objs.size + 1) = some (excO C h.objs.size) := by heap_get
  have hcC : (Value.ref C :: bm).contains (.ref C) = true := by simp
  have i1 := hi.keeps k
  have b1 := (hb (.ref (h.objs.size + 1))).keeps k
  unfold isInstance
  repeat (first | with_reducible refine wpAny_loadPart_at hget ?_ | (with_reducible refine wpAny_isSubtype_exc hC₁ ?_; rw [hcC]) | wp_step)
  show wpAny _ _ (typeLookup (.ref C) _) _ _ _
  refine i1.at ?_
  refine wpAny_holding (wpAny_bind (b1.at ?_))
  refine wpAny_bind (wpAny_call (codeAny_mono hq fun r s' z => ?_))
  rcases r with e | (v | _ | _ | _) <;> first | exact z | exact z.elim | skip
  obtain ⟨rfl, z⟩ := z
  first
    | exact wpAny_pure (wpAny_pure z)
    | (wp_walk; exact z)
theorem check_type_call_kw {M : Model} {rest : List Value} {kw : List (Str × Value)} {Q : Unit → Shared → Prop} (hC : h.get? C = some (excClassObj nm q C N bs bm hdct sn sub ab col dd k0 k1 k2 k3 k5 newId))
    (hq : Q () ⟨h, g, d, t, os⟩) : wpAny M A (checkBuiltinCall "type.__call__" ⟨.ref C :: rest, kw⟩) Q E ⟨h, g, d, t, os⟩ := by
  have f3 := tc_sub
  have hT : (⟨h, g, d, t, os⟩ : Shared).TypeIs (.ref C) "type" := ⟨_, hC, rfl⟩
  simp only [checkBuiltinCall, tc_kind, tc_split]
  repeat (any_goals (first | assumption | with_reducible refine wpAny_loadPart_at hC ?_ | with_reducible refine wpAny_onRaise ?_ | with_reducible refine wpAny_map ?_ | wp_step))
theorem call_kw (F : ExcBaseFacts B newId initId bmB) (hT : ∀ X : String, bm.contains (.type X) = bmB.contains (.type X)) {rest : List Value} {kw : List (Str × Value)} {fI : Addr}
    (hC : h.get? C = some (excClassObj nm q C N bs bm hdct sn sub ab col dd k0 k1 k2 k3 k5 newId))
    (hi : W.Looks (model prog w) h (typeLookup (.ref C) "__init__") (some (.ref fI))) (hb : ∀ self, W.Looks (model prog w) h (bindSpecial (.ref fI) self) (.ref fI, [self])) (hrest : rest.length ≤ sizeLine)
    (hq : codeAny (model prog w) (A.under (.builtin "type.__call__" ⟨.ref C :: rest, kw⟩)) (.call (.ref fI) ⟨.ref (h.objs.size + 1) :: rest, kw⟩) (W.InitBack (h.objs.size + 1) R)
      ⟨(h.push (W.kdv_tup rest)).push (excO C h.objs.size), g, d, t, os⟩) :
    codeAny (model prog w) A (.call (.ref C) ⟨rest, kw⟩) R ⟨h, g, d, t, os⟩ := by
  have f1 := tc_lookup
  have f2 := tc_bind (.ref C)
  have hTy : (⟨h, g, d, t, os⟩ : Shared).TypeIs (.ref C) "type" := ⟨_, hC, rfl⟩
  refine codeAny_of_tree ?_
  show wpAny _ _ (callAny (.ref C) _) _ _ _
  repeat (any_goals (first | assumption | with_reducible refine wpAny_loadPart_at hC ?_ | wp_step))
  refine ⟨rfl, ?_⟩
  refine codeAny_call_builtin_at (Code.quiet_builtin _ (by decide +kernel)) entry_typeCall (check_type_call_kw hC (type_call_kw F hT hC hi hb hrest ?_))
  refine codeAny_mono hq fun r s' z => ?_
  rcases r with e | (v | _ | _ | _) <;> exact z
end
end OEK
end PySem

/-! Own errors as values: C(..) with an own __init__ that calls the base's, err.f, isinstance. -/
namespace PySem.W
open PySem PySem.Spec PySem.Calls PyProof.Rows
section
variable {prog : Program} {w : World} {A : Around} {E : Value → Shared → Prop} {s : Shared} {K : Frag} {x D : Addr} {ox : Obj} {od : Option Obj}
theorem findObj_dataO {C : Addr} {name : Str} {a g : Value} (hc : (clsIn K C).isSome = true) (ha : findIn K (.ref C) name = some (some a)) (hg : specialIn K a "__get__" = some (some g)) (ht : takesIn K a = some true) : findObj K C od name = some (.bind g a) := by
  obtain ⟨cd, hc⟩ := Option.isSome_iff_exists.mp hc
  unfold findObj
  rw [hc, Option.bind_some, ha, Option.bind_some]
  simp [hg, ht]
theorem kin_classO {Q : Option Value → Shared → Prop} (hga : findIn K (.ref D) "__getattribute__" = some (some (.builtin "BaseException.__getattribute__"))) (hgt : findIn K (.ref D) "__getattr__" = some none) (hsub : subIn K (.ref D) (.type "BaseException") = some true)
    (hdct : hasDictIn K D = true) (ha : findIn K (.ref D) "__class__" = some (some (.builtin "object.__class__")))
    (hn : specialIn K (.builtin "object.__class__") "__get__" = some (some (.builtin "getset_descriptor.__get__"))) (htk : takesIn K (.builtin "object.__class__") = some true) (hm : mroIn K D (.type "object") = some true)
    (X : K.In s.heap) (I : InstAt s.heap x ox D od) (h : Q (some (.ref D)) { s with toks := s.toks + 1 }) : wpAny (model prog w) A (getAttr? (.ref x) "__class__") Q E s := by
  have hf : findObj K D od "__class__" = some (.bind (.builtin "getset_descriptor.__get__") (.builtin "object.__class__")) := findObj_dataO (by obtain ⟨cd, hc, _⟩ := any_some hdct; rw [hc]; rfl) ha hn htk
  obtain ⟨hp, g, d, t, os⟩ := s
  have L0 := I.type (M := model prog w)
  have L1 := looks_findIn (M := model prog w) X hga
  have L2 := looks_findIn (M := model prog w) X hgt
  have L3 := looks_find (M := model prog w) X I hf
  have sub : Looks (model prog w) hp (isInstance (.ref x) (.type "BaseException")) true := L0.andThen (looks_subIn X hsub)
  have hx0 : (false && onTheHeap (Value.builtin "BaseException.__getattribute__")) = false := rfl
  have hx2 : (Value.builtin "BaseException.__getattribute__" == Value.builtin "object.__getattribute__") = false := by decide +kernel
  have hx1 : (onTheHeap (Value.ref D) && Value.builtin "BaseException.__getattribute__" == Value.builtin "object.__getattribute__") = false := by rw [hx2]; rfl
  unfold getAttr? getAttrBy? getAttrBy
  refine wpAny_bind (wpAny_mkText (wpAny_bind (wpAny_attempt (wpAny_holding (wpAny_bind (L0.at (wpAny_bind (L1.at ?_))))))))
  show wpAny _ _ (if (onTheHeap (Value.ref D) && Value.builtin "BaseException.__getattribute__" == Value.builtin "object.__getattribute__") = true then _ else _) _ _ _
  rw [hx1, if_neg Bool.false_ne_true]
  unfold getAttrByItsOwn hookBefore
  refine wpAny_bind ?_
  rw [if_pos (show onTheHeap (Value.ref D) = true from rfl)]
  refine L2.at ?_
  refine wpAny_bind (wpAny_attempt (wpAny_holding ?_))
  unfold callGetattribute
  rw [hx0, if_neg Bool.false_ne_true]
  unfold boundAndCalled
  rw [PySem.F.excAttr_ValueError.ga.bind (.ref x)]
  refine wpAny_bind (wpAny_pure ?_)
  show wpAny _ _ (call (.builtin "BaseException.__getattribute__") [.ref x, .str "__class__" t]) _ _ _
  refine wpAny_call (codeAny_call_builtin PySem.F.excAttr_ValueError.ga.plain PySem.F.entry_bexc_ga ?_)
  refine @check_slot (model prog w) _ _ ⟨hp, g, d, t + 1, os⟩ "BaseException.__getattribute__" "BaseException" "__getattribute__" (.ref x) [.str "__class__" t] [] _ (by decide +kernel) (by decide +kernel) sub (PySem.F.args_bexc_ga (.ref x) (.str "__class__" t)) ?_
  unfold Builtin.«object.__getattribute__»
  refine wpAny_bind (wpAny_of_eq (a := ((Value.ref x : Value), [Value.str "__class__" t])) (by first | rfl | (simp only [slotArgs]; rfl)) ?_)
  refine wpAny_bind (wpAny_pure (wpAny_bind (L0.at (wpAny_bind (L3.at ?_)))))
  show wpAny _ _ (holding [Value.builtin "object.__class__"] (call (.builtin "getset_descriptor.__get__") [.builtin "object.__class__", .ref x, .ref D]) >>= ret) _ _ _
  refine wpAny_bind (wpAny_holding (wpAny_call (class_get (s := ⟨hp, g, d, t + 1, os⟩) (ox := ox) (od := od) X I hm ?_)))
  refine wpAny_pure ?_
  show wpAny _ _ (handedOut (.ref D)) _ _ _
  rw [handedOut_of (v := .ref D) rfl]
  first
    | exact wpAny_pure (wpAny_pure h)
    | exact wpAny_pure h
    | exact wpAny_pure (wpAny_bind (wpAny_pure (wpAny_pure h)))
theorem kitx_excO (hga : findIn K (.ref D) "__getattribute__" = some (some (.builtin "BaseException.__getattribute__"))) (hgt : findIn K (.ref D) "__getattr__" = some none) (hsub : subIn K (.ref D) (.type "BaseException") = some true) (hdct : hasDictIn K D = true) (ha : findIn K (.ref D) "__class__" = some (some (.builtin "object.__class__")))
    (hn : specialIn K (.builtin "object.__class__") "__get__" = some (some (.builtin "getset_descriptor.__get__"))) (htk : takesIn K (.builtin "object.__class__") = some true) (hm : mroIn K D (.type "object") = some true) :
    KitX K (.ref x) (.ref D) (fun h => InstAt h x ox D od) where
  ty := fun _ _ _ I => I.type
  it := fun _ _ X _ => by
    obtain ⟨cdD, hcD, _⟩ := any_some hdct
    unfold clsIn at hcD
    split at hcD
    · rename_i c' d' cd' sl' ho
      intro A' Q' E' s' k q
      unfold isType loadHead
      exact wpAny_bind (wpAny_loadPart (k _ _ (X _ _ ho)) (wpAny_pure q))
    · cases hcD
  ne := fun h tp dd its n sl X htp => by
    obtain ⟨cdD, hcD, _⟩ := any_some hdct
    refine Bool.eq_false_iff.mpr fun q => ?_
    have e : D = tp := Value.ref.inj (beq_iff_eq.mp q)
    subst e
    unfold clsIn at hcD
    split at hcD
    · rename_i c' d' cd' sl' ho
      have z := (X _ _ ho).symm.trans htp
      cases z
    · cases hcD
  ca := fun X I k => kin_classO hga hgt hsub hdct ha hn htk hm X I k
end
end PySem.W
namespace L2
open PySem PySem.Spec PyProof.Rows
/-- what the text says of an error class whose __init__ is the def at fI -/
structure OxF (K : PySem.W.Frag) (C fI : Addr) : Prop where
  oex : OexC K C
  hg : PySem.W.findIn K (.ref C) "__getattribute__" = some (some (.builtin "BaseException.__getattribute__"))
  hk : PySem.W.findIn K (.ref C) "__getattr__" = some none
  hd : PySem.W.hasDictIn K C = true
  ha : PySem.W.findIn K (.ref C) "__class__" = some (some (.builtin "object.__class__"))
  hn : PySem.W.specialIn K (.builtin "object.__class__") "__get__" = some (some (.builtin "getset_descriptor.__get__"))
  tk : PySem.W.takesIn K (.builtin "object.__class__") = some true
  hm : PySem.W.mroIn K C (.type "object") = some true
  ini : PySem.W.findIn K (.ref C) "__init__" = some (some (.ref fI))
  fn : PySem.W.isFn K (.ref fI) = true
/-- at a: an error of the class C with the fields fs -/
def ErrAt (H : Hp) (a C : Addr) (fs : List (Str × V)) : Prop := (fs = [] ∧ H a = some (exo a C none)) ∨ ∃ d, H a = some (exo a C (some d)) ∧ H d = some (exd d fs)
theorem ErrAt.same {H H' : Hp} {a C : Addr} {fs : List (Str × V)} (h : ErrAt H a C fs) (e : Same H H') : ErrAt H' a C fs := by
  rcases h with ⟨h1, h2⟩ | ⟨d, h1, h2⟩
  · exact .inl ⟨h1, e _ _ h2⟩
  · exact .inr ⟨d, e _ _ h1, e _ _ h2⟩
theorem ErrAt.inst {X : Cx} {pins : List (Addr × Obj)} {σ : St} {H : Hp} {s : Shared} {a C : Addr} {fs : List (Str × V)} (I : Inv X pins σ H s) (h : ErrAt H a C fs) :
    ∃ ox od, PySem.W.InstAt s.heap a ox C od ∧ ∀ f v, fs.lookup f = some v → ∃ o u, od = some o ∧ PySem.W.lookIn f o = some (some u) ∧ RelV v u := by
  rcases h with ⟨h1, h2⟩ | ⟨d, h1, h2⟩
  · obtain ⟨t1, ho⟩ := exo_at I.hok h2
    exact ⟨_, none, ⟨ho, rfl, rfl, trivial⟩, fun f v e => by rw [h1] at e; cases e⟩
  · obtain ⟨t1, ho⟩ := exo_at I.hok h1
    obtain ⟨mA, hns, rel⟩ := exd_at I.hok h2
    have hns0 := hns
    obtain ⟨od, hod, hl⟩ := lookIn_ns hns0
    refine ⟨_, some od, ⟨ho, rfl, rfl, hod⟩, fun f v e => ?_⟩
    obtain ⟨u, hu, ru⟩ := RelO.some_of (v := v) (o := mA f) (by rw [← e]; exact rel f)
    exact ⟨od, u, rfl, by rw [hl, hu], ru⟩
section
variable {X : Cx} {o e : Expr} {es : List Expr} {to te : TE} {ta : TA} {f : Str} {p p' p1 p2 pos : Pos}
/-- isinstance(err, c) -/
def rIsX (K : PySem.W.Frag) : List V → Hp → VK → Prop := fun xs H Q => match xs with
  | [.ref a, .ref D] => ∃ C fI fs b, ErrAt H a C fs ∧ OxF K C fI ∧ PySem.W.kitOne K (.ref C) (.ref D) = some b ∧ Q (.bl b) H
  | [.ref a, .ty n] => ∃ C fI fs b, ErrAt H a C fs ∧ OxF K C fI ∧ PySem.W.kitOne K (.ref C) (.type n) = some b ∧ Q (.bl b) H
  | _ => False
theorem cc_isX {K : PySem.W.Frag} (hK : X.K = K := by rfl) : CallR X (.builtin "isinstance") (rIsX K) := by
  subst hK
  intro pins s σ H xs us Q I r h
  unfold rIsX at h
  split at h
  · obtain ⟨C, fI, fs, b, he, T, e, q⟩ := h
    obtain ⟨u1, u2, rfl, r1, r2⟩ := vals2 r
    cases (show u1 = Value.ref _ from r1)
    cases (show u2 = Value.ref _ from r2)
    obtain ⟨ox, od, J, _⟩ := he.inst I
    exact PySem.W.kia_one (PySem.W.kitx_excO T.hg T.hk T.oex.exC T.hd T.ha T.hn T.tk T.hm) I.kIn J e (fun z => nomatch z) fun tk => ⟨.bl b, H, I.tok tk, rfl, q⟩
  · obtain ⟨C, fI, fs, b, he, T, e, q⟩ := h
    obtain ⟨u1, u2, rfl, r1, r2⟩ := vals2 r
    cases (show u1 = Value.ref _ from r1)
    cases (show u2 = Value.type _ from r2)
    obtain ⟨ox, od, J, _⟩ := he.inst I
    exact PySem.W.kia_one (PySem.W.kitx_excO T.hg T.hk T.oex.exC T.hd T.ha T.hn T.tk T.hm) I.kIn J e (fun z => nomatch z) fun tk => ⟨.bl b, H, I.tok tk, rfl, q⟩
  · exact h.elim
/-- err.f -/
def tFldX (K : PySem.W.Frag) (ta : TE) (f : Str) : TE := fun σ H Q => ta σ H fun x H1 => match x with
  | .ref a => ∃ C fI fs v, ErrAt H1 a C fs ∧ OxF K C fI ∧ PySem.W.findIn K (.ref C) f = some none ∧ fs.lookup f = some v ∧ Q v H1
  | _ => False
theorem ce_fldX {K : PySem.W.Frag} {t : TE} (he : PE X e t) (hb : attributeBase e f X.env (eval e X.env) = eval e X.env) (hK : X.K = K := by rfl) : PE X (.Attribute e f pos) (tFldX K t f) := by
  subst hK
  refine ⟨fun pins s σ H Q I h => ?_⟩
  refine attr_of hb (thn (he.run pins s σ H _ I h) fun u s1 hh => ?_)
  obtain ⟨x, H1, I1, rx, q⟩ := hh
  cases x with
  | ref a =>
    obtain ⟨C, fI, fs, v, ea, T, hno, l, q⟩ := q
    obtain rfl : u = Value.ref a := rx
    obtain ⟨ox, od, J, k⟩ := ea.inst I1
    obtain ⟨o, u, rfl, hl, ru⟩ := k f v l
    exact HandSPX.exc_get I1.kIn J T.hg T.hk T.oex.exC (PySem.W.findObj_own T.hd hno rfl hl) (handed_of ru) ⟨v, H1, I1.tok _, ru, q⟩
  | _ => exact q.elim
/-- B.__init__(self, ..), B an own class over ValueError without an __init__ -/
structure BaseI (K : PySem.W.Frag) (C : Addr) : Prop where
  rd : ClX.CRead K C (.type "type")
  at_ : PySem.W.findCls K (.ref C) (.type "type") "__init__" = some (.val (.builtin "ValueError.__init__"))
theorem pe_coinit {x : Str} {C : Addr} {pl : Sem Bool} (hg : Gl X x) (hm : X.mg x = some (.ref C)) (b : BaseI X.K C) (ha : PA X (e :: es) ta)
    (hdb : (x == ("__debug__" : Str)) = false := by decide)
    (hc : eval (.Call (.Attribute (.Name x p1) "__init__" p2) (e :: es) [] pos) X.env = (do
      let ov ← eval (.Name x p1) X.env
      standAt p2.atName
      let (f, first) ← holding [ov] (getMethod ov "__init__" pl)
      callWith pos f first (backTo pos (starEach (e :: es) X.env)) (backToKw pos (keywordEach [] X.env))) := by rfl)
    (he : starEach (e :: es) X.env = (false, eval e X.env) :: starEach es X.env := by rfl) (hpl : (backTo pos (starEach es X.env)).any (·.1) = false := by rfl) :
    PE X (.Call (.Attribute (.Name x p1) "__init__" p2) (e :: es) [] pos) (tVeI X.K ta) := by
  refine ⟨fun pins s σ H Q I h => ?_⟩
  refine PySem.W.methodCall_KW (ld_glob I hg hm ?_ hdb) hc
  refine PySem.W.method_cls I.kIn b.rd.ga (PySem.W.cls_value I.kIn b.rd.rd b.at_ (show PySem.W.handedIn (Value.builtin "ValueError.__init__") = true by decide +kernel) ?_)
  show wpAny _ _ (callWith pos (Value.builtin "ValueError.__init__") [] (backTo pos (starEach (e :: es) X.env)) []) _ _ _
  refine PyProof.Rows.callWith_method1 (thn (ha.run pos pins _ σ H _ (I.tok _) h) fun us s1 ⟨vs, H1, I1, r1, a, C, ws, ev, hl, T, ea, q⟩ => ?_) he hpl
  subst ev
  cases r1 with
  | @cons _ u0 _ ur ra rw' =>
    obtain rfl : u0 = Value.ref a := ra
    have hlen : ur.length ≤ sizeLine := by
      rw [← Paired.length rw', sizeLine_eq]
      omega
    exact oinit_ok T I1 ea hlen fun s' J => ⟨.non, H1, J, rfl, q⟩
/-! ### C(..) -/
def tMkX (C : Addr) (sp : Sp) (gV : List V → List V → List V) (n m : Nat) (ta tk : TA) : TE := fun σ H Q => ta σ H fun vs H1 => tk σ H1 fun zs H2 => vs.length = n ∧ zs.length = m ∧ n ≤ 1000 ∧
  ∀ a, H2 a = none → sp (gV (.ref a :: vs) zs) (upd H2 a (exo a C none)) (fun v H3 => v = .non ∧ Q (.ref a) H3) (fun _ _ _ => False)
variable {CX : CXT} {k n : Nat} {fI C : Addr} {fd : FuncData} {ps ks : List Str} {sp : Sp} {x : Str} {kws : List Keyword} {t tk : TA} {g : List Value → List Value → List Value} {gV : List V → List V → List V}
theorem run_mkX {pins : List (Addr × Obj)} {σ : St} {H : Hp} {s : Shared} {Q : VK} {us ws : List Value} {vs zs : List V} (M : OxF X.K C fI) (F1 : FnOk X.prog X.w X.K X.mg X.base CX k fI fd ps sp) (hr : Room (k + 1) X.A) (hb : KBn X.K fd ps (n + 1) ks g gV)
    (hx : Passes CX X (fun _ _ _ => False)) (I1 : Inv X pins σ H s) (r : Vals vs us) (rz : Vals zs ws) (l1 : vs.length = n) (l2 : zs.length = ks.length) (ln : n ≤ 1000)
    (h : ∀ a, H a = none → sp (gV (.ref a :: vs) zs) (upd H a (exo a C none)) (fun v H3 => v = .non ∧ Q (.ref a) H3) (fun _ _ _ => False)) :
    wpAny (model X.prog X.w) X.A (call (.ref C) us (ks.zip ws)) (EP X pins σ Q) X.xe s := by
  obtain ⟨nm, q, N, bs, bm, sn, sub, ab, col, dd, k0, k1, k2, k3, k5, hC, hbm⟩ := M.oex.cls
  obtain ⟨hp, g', dr, tk', os⟩ := s
  have hsz : hp.objs.size ≤ hp.objs.size + 1 := Nat.le_succ _
  have hn : H (hp.objs.size + 1) = none := I1.hok.fresh hsz
  have hq := h (hp.objs.size + 1) hn
  have kk : ∀ b o, hp.get? b = some o → ((hp.push (PySem.W.kdv_tup us)).push (PySem.HandSPX.excO C hp.objs.size)).get? b = some o := fun b o e => Heap.get?_push_of_some _ (Heap.get?_push_of_some _ e)
  have hget : ((hp.push (PySem.W.kdv_tup us)).push (PySem.HandSPX.excO C hp.objs.size)).get? (hp.objs.size + 1) = some (PySem.HandSPX.excO C hp.objs.size) := by heap_get
  have I2 : Inv X pins σ (upd H (hp.objs.size + 1) (exo (hp.objs.size + 1) C none)) ⟨(hp.push (PySem.W.kdv_tup us)).push (PySem.HandSPX.excO C hp.objs.size), g', dr, tk', os⟩ :=
    I1.laid (t' := tk') (a := hp.objs.size + 1) (o := exo (hp.objs.size + 1) C none) (h' := (hp.push (PySem.W.kdv_tup us)).push (PySem.HandSPX.excO C hp.objs.size)) kk hsz (exo_ok hget)
  have r1 : Vals (V.ref (hp.objs.size + 1) :: vs) (Value.ref (hp.objs.size + 1) :: us) := .cons rfl r
  have r2 := hb.rel r1 rz
  have e1 : (Value.ref (hp.objs.size + 1) :: us).length = n + 1 := r1.length.symm.trans (congrArg Nat.succ l1)
  have e2 : ws.length = ks.length := rz.length.symm.trans l2
  have hus : us.length ≤ sizeLine := by
    rw [← Paired.length r, sizeLine_eq]
    omega
  refine wpAny_call (PySem.OEK.call_kw F.excBase_ValueError (fun Y => PySem.HandSPX.refsVE_contains Y bm hbm) (I1.kIn _ _ hC) (PySem.W.looks_findIn I1.kIn M.ini) (fun self => PySem.W.bind_fn I1.kIn self (beq_iff_eq.mp M.fn)) hus
    (codeAny_mono (F1.run _ X.stack _ _ ⟨Value.ref (hp.objs.size + 1) :: us, ks.zip ws⟩ (g (Value.ref (hp.objs.size + 1) :: us) ws) _ _ (fun _ _ _ => False) (hr.make C us (ks.zip ws)) (I2.env0.make C us (ks.zip ws)) (hb.to _ (Value.ref (hp.objs.size + 1) :: us) ws I2.kIn e1 e2) r2 hq) fun r s' hq' => ?_))
  cases r with
  | error er => exact hx pins σ _ _ er s' I2 hq'
  | ok fl =>
    cases fl with
    | ret u =>
      obtain ⟨v, H', I3, rv, ev, q3⟩ := I2.after hq'
      subst ev
      exact ⟨rv, ⟨V.ref (hp.objs.size + 1), H', I3, rfl, q3⟩⟩
    | next => exact False.elim hq'
    | brk => exact False.elim hq'
    | cont => exact False.elim hq'
theorem pe_mkX (M : OxF X.K C fI) (F1 : FnOk X.prog X.w X.K X.mg X.base CX k fI fd ps sp) (hr : Room (k + 1) X.A) (hg : Gl X x) (hm : X.mg x = some (.ref C)) (hb : KBn X.K fd ps (n + 1) ks g gV) (hx : Passes CX X (fun _ _ _ => False))
    (ha : PA X (e :: es) t) (hkw : PK X kws tk) (hall : (backToKw pos (keywordEach kws X.env)).all (·.1.isSome) = true := by rfl) (hks : (backToKw pos (keywordEach kws X.env)).filterMap (·.1) = ks := by rfl)
    (hdb : (x == ("__debug__" : Str)) = false := by decide) (he : starEach (e :: es) X.env = (false, eval e X.env) :: starEach es X.env := by rfl)
    (hpl : ((backTo pos (starEach (e :: es) X.env)).any (·.1) || (backToKw pos (keywordEach kws X.env)).any (·.1.isNone)) = false := by rfl) :
    PE X (.Call (.Name x p) (e :: es) kws pos) (tMkX C sp gV n ks.length t tk) := by
  refine ⟨fun pins s σ H Q I h => ?_⟩
  refine wpAny_Call_Name_kw (ld_glob I hg hm ?_ hdb)
  refine PySem.W.callWith_KW (h₀ := X.base) I.ok.mod.kin M.oex.kC hall (thn (ha.run pos pins s σ H _ I h) fun us s1 ⟨vs, H1, I1, r, q⟩ => ?_) hpl he
  refine thn (hkw.run pos pins s1 σ H1 _ I1 q) fun ws s2 ⟨zs, H2, I2, rz, l1, l2, ln, q2⟩ => ⟨I2.kIn, ?_⟩
  rw [hks]
  exact run_mkX M F1 hr hb hx I2 r rz l1 l2 ln q2
theorem pe_mkX0 (M : OxF X.K C fI) (F1 : FnOk X.prog X.w X.K X.mg X.base CX k fI fd ps sp) (hr : Room (k + 1) X.A) (hg : Gl X x) (hm : X.mg x = some (.ref C)) (hb : KBn X.K fd ps (0 + 1) ks g gV) (hx : Passes CX X (fun _ _ _ => False))
    (hkw : PK X kws tk) (hall : (backToKw pos (keywordEach kws X.env)).all (·.1.isSome) = true := by rfl) (hks : (backToKw pos (keywordEach kws X.env)).filterMap (·.1) = ks := by rfl)
    (hdb : (x == ("__debug__" : Str)) = false := by decide)
    (hpl : ((backTo pos (starEach [] X.env)).any (·.1) || (backToKw pos (keywordEach kws X.env)).any (·.1.isNone)) = false := by rfl) :
    PE X (.Call (.Name x p) [] kws pos) (tMkX C sp gV 0 ks.length tNil tk) := by
  refine ⟨fun pins s σ H Q I h => ?_⟩
  refine wpAny_Call_Name_kw (ld_glob I hg hm ?_ hdb)
  refine PySem.W.callWith_KW0 (h₀ := X.base) I.ok.mod.kin M.oex.kC hall (thn (hkw.run pos pins s σ H _ I h) fun ws s2 ⟨zs, H2, I2, rz, l1, l2, ln, q2⟩ => ⟨I2.kIn, ?_⟩) hpl
  rw [hks]
  exact run_mkX (us := []) M F1 hr hb hx I2 .nil rz l1 l2 ln q2
end
/-- what is asked of the text for an error class -/
structure OxC (K : PySem.W.Frag) (C : Addr) : Prop where
  oex : OexC K C
  hg : PySem.W.findIn K (.ref C) "__getattribute__" = some (some (.builtin "BaseException.__getattribute__"))
  hk : PySem.W.findIn K (.ref C) "__getattr__" = some none
  hd : PySem.W.hasDictIn K C = true
  ha : PySem.W.findIn K (.ref C) "__class__" = some (some (.builtin "object.__class__"))
  hm : PySem.W.mroIn K C (.type "object") = some true
theorem OxC.mkF {K : PySem.W.Frag} {C fI : Addr} (o : OxC K C) (hn : PySem.W.specialIn K (.builtin "object.__class__") "__get__" = some (some (.builtin "getset_descriptor.__get__"))) (tk : PySem.W.takesIn K (.builtin "object.__class__") = some true)
    (ini : PySem.W.findIn K (.ref C) "__init__" = some (some (.ref fI))) (fn : PySem.W.isFn K (.ref fI) = true) : OxF K C fI := ⟨o.oex, o.hg, o.hk, o.hd, o.ha, hn, tk, o.hm, ini, fn⟩
section
variable {K : PySem.W.Frag}
theorem kbn_of {fd : FuncData} {ps : List Str} {n : Nat} (h : Binds K fd ps []) (hn : ps.length = n) : KBn K fd ps n [] (fun us _ => us) (fun vs _ => vs) where
  to := fun s us ws X l1 l2 => by
    have b := h s us X (by rw [List.append_nil, l1, hn])
    rw [List.append_nil] at b
    exact b
  rel := fun r _ => r
theorem Fun.kbn {x qual : Str} {st : Stmt} {f : Addr} {fd : FuncData} {ps ks : List Str} {n : Nat} {g : List Value → List Value → List Value} {gV : List V → List V → List V} (F : Fun K x qual st f fd)
    (h : ∀ (kV doc pm : Value) (an : Option Addr) (cdv ct : Value) (us ws : List Value), us.length = n → ws.length = ks.length → bindArgs (PySem.W.fnOf x qual (defArgs st) (defBody st) (defScope st) .none kV doc pm an cdv ct) ⟨us, ks.zip ws⟩ = pure (ps.zip (g us ws)))
    (hrel : ∀ {vs : List V} {us : List Value} {zs : List V} {ws : List Value}, Vals vs us → Vals zs ws → Vals (gV vs zs) (g us ws)) : KBn K fd ps n ks g gV := by
  obtain ⟨oc, od, kV, doc, pm, an, cdv, ct, osl, rfl, lk, hcd⟩ := F.ex
  exact ⟨fun s us ws X l1 l2 => .of_eq (h kV doc pm an cdv ct us ws l1 l2), hrel⟩
theorem vals_rev {zs : List V} {ws : List Value} (h : Vals zs ws) : Vals zs.reverse ws.reverse := by
  induction h with
  | nil => exact .nil
  | cons a _ ih =>
    rw [List.reverse_cons, List.reverse_cons]
    exact ih.append (.cons a .nil)
end
def rIntC : List V → Hp → VK → Prop := fun xs H Q => match xs with
  | [.int i] => Q (.int i) H
  | _ => False
theorem cc_int {X : Cx} : CallR X (.type "int") rIntC := call_int1.weak fun xs H Q h => by
  unfold rIntC at h
  split at h
  · exact .inl ⟨_, rfl, h⟩
  · exact h.elim
end L2

namespace Toy
open PySem L2
/-- each of these classes is itself, and no other of them; and an error of ours -/
def ktB (K : PySem.W.Frag) (S : Addr) (l : List Addr) : Bool := l.all fun c => (l.all fun d => PySem.W.kitOne K (.ref c) (.ref d) == some (c == d)) && (PySem.W.kitOne K (.ref c) (.ref S) == some true && PySem.W.kitOne K (.ref c) (.type "ValueError") == some true)
def topS (i : Nat) : Stmt := PySem.Challenge.pw_sourcequeue_k01_errors.main.body.getD i (.Pass ⟨0, 0, 0, 0⟩)
abbrev s_BadName_XinitX : Stmt := inClass (topS 2) 0
abbrev N_BadName_XinitX : List Str := ["self", "name"]
theorem sc_BadName_XinitX : FnScope N_BadName_XinitX ["self", "name"] (defScope s_BadName_XinitX) := ⟨rfl, rfl, rfl, by decide +kernel, rfl, by decide +kernel, by decide +kernel⟩
abbrev s_BadPath_XinitX : Stmt := inClass (topS 3) 0
abbrev N_BadPath_XinitX : List Str := ["self", "path"]
theorem sc_BadPath_XinitX : FnScope N_BadPath_XinitX ["self", "path"] (defScope s_BadPath_XinitX) := ⟨rfl, rfl, rfl, by decide +kernel, rfl, by decide +kernel, by decide +kernel⟩
abbrev s_NoFile_XinitX : Stmt := inClass (topS 4) 0
abbrev N_NoFile_XinitX : List Str := ["self", "path"]
theorem sc_NoFile_XinitX : FnScope N_NoFile_XinitX ["self", "path"] (defScope s_NoFile_XinitX) := ⟨rfl, rfl, rfl, by decide +kernel, rfl, by decide +kernel, by decide +kernel⟩
abbrev s_BadHunk_XinitX : Stmt := inClass (topS 5) 0
abbrev N_BadHunk_XinitX : List Str := ["self", "index"]
theorem sc_BadHunk_XinitX : FnScope N_BadHunk_XinitX ["self", "index"] (defScope s_BadHunk_XinitX) := ⟨rfl, rfl, rfl, by decide +kernel, rfl, by decide +kernel, by decide +kernel⟩
abbrev s_BadPatch_XinitX : Stmt := inClass (topS 6) 0
abbrev N_BadPatch_XinitX : List Str := ["self", "path"]
theorem sc_BadPatch_XinitX : FnScope N_BadPatch_XinitX ["self", "path"] (defScope s_BadPatch_XinitX) := ⟨rfl, rfl, rfl, by decide +kernel, rfl, by decide +kernel, by decide +kernel⟩
abbrev s_Refused_XinitX : Stmt := inClass (topS 7) 0
abbrev N_Refused_XinitX : List Str := ["self", "path", "index"]
theorem sc_Refused_XinitX : FnScope N_Refused_XinitX ["self", "path", "index"] (defScope s_Refused_XinitX) := ⟨rfl, rfl, rfl, by decide +kernel, rfl, by decide +kernel, by decide +kernel⟩
abbrev s_Entangled_XinitX : Stmt := inClass (topS 8) 0
abbrev N_Entangled_XinitX : List Str := ["self", "path"]
theorem sc_Entangled_XinitX : FnScope N_Entangled_XinitX ["self", "path"] (defScope s_Entangled_XinitX) := ⟨rfl, rfl, rfl, by decide +kernel, rfl, by decide +kernel, by decide +kernel⟩
abbrev s_BadSeries_XinitX : Stmt := inClass (topS 9) 0
abbrev N_BadSeries_XinitX : List Str := ["self", "index"]
theorem sc_BadSeries_XinitX : FnScope N_BadSeries_XinitX ["self", "index"] (defScope s_BadSeries_XinitX) := ⟨rfl, rfl, rfl, by decide +kernel, rfl, by decide +kernel, by decide +kernel⟩
abbrev s_Stopped_XinitX : Stmt := inClass (topS 10) 0
abbrev N_Stopped_XinitX : List Str := ["self", "index"]
theorem sc_Stopped_XinitX : FnScope N_Stopped_XinitX ["self", "index"] (defScope s_Stopped_XinitX) := ⟨rfl, rfl, rfl, by decide +kernel, rfl, by decide +kernel, by decide +kernel⟩
abbrev s_BadRecipe_XinitX : Stmt := inClass (topS 11) 0
abbrev N_BadRecipe_XinitX : List Str := ["self", "index"]
theorem sc_BadRecipe_XinitX : FnScope N_BadRecipe_XinitX ["self", "index"] (defScope s_BadRecipe_XinitX) := ⟨rfl, rfl, rfl, by decide +kernel, rfl, by decide +kernel, by decide +kernel⟩
abbrev s_Outside_XinitX : Stmt := inClass (topS 12) 0
abbrev N_Outside_XinitX : List Str := ["self", "output", "read"]
theorem sc_Outside_XinitX : FnScope N_Outside_XinitX ["self", "output", "read"] (defScope s_Outside_XinitX) := ⟨rfl, rfl, rfl, by decide +kernel, rfl, by decide +kernel, by decide +kernel⟩
abbrev s_Absent_XinitX : Stmt := inClass (topS 13) 0
abbrev N_Absent_XinitX : List Str := ["self", "output", "read"]
theorem sc_Absent_XinitX : FnScope N_Absent_XinitX ["self", "output", "read"] (defScope s_Absent_XinitX) := ⟨rfl, rfl, rfl, by decide +kernel, rfl, by decide +kernel, by decide +kernel⟩
abbrev s_BadArchive_XinitX : Stmt := inClass (topS 14) 0
abbrev N_BadArchive_XinitX : List Str := ["self", "name"]
theorem sc_BadArchive_XinitX : FnScope N_BadArchive_XinitX ["self", "name"] (defScope s_BadArchive_XinitX) := ⟨rfl, rfl, rfl, by decide +kernel, rfl, by decide +kernel, by decide +kernel⟩
abbrev s_NoPlan_XinitX : Stmt := inClass (topS 15) 0
abbrev N_NoPlan_XinitX : List Str := ["self", "ring"]
theorem sc_NoPlan_XinitX : FnScope N_NoPlan_XinitX ["self", "ring"] (defScope s_NoPlan_XinitX) := ⟨rfl, rfl, rfl, by decide +kernel, rfl, by decide +kernel, by decide +kernel⟩
abbrev s_NoOrder_XinitX : Stmt := inClass (topS 16) 0
abbrev N_NoOrder_XinitX : List Str := ["self"]
theorem sc_NoOrder_XinitX : FnScope N_NoOrder_XinitX ["self"] (defScope s_NoOrder_XinitX) := ⟨rfl, rfl, rfl, by decide +kernel, rfl, by decide +kernel, by decide +kernel⟩
abbrev s_NoPatch_XinitX : Stmt := inClass (topS 17) 0
abbrev N_NoPatch_XinitX : List Str := ["self", "name"]
theorem sc_NoPatch_XinitX : FnScope N_NoPatch_XinitX ["self", "name"] (defScope s_NoPatch_XinitX) := ⟨rfl, rfl, rfl, by decide +kernel, rfl, by decide +kernel, by decide +kernel⟩
abbrev s_Clashed_XinitX : Stmt := inClass (topS 18) 0
abbrev N_Clashed_XinitX : List Str := ["self", "ours", "theirs"]
theorem sc_Clashed_XinitX : FnScope N_Clashed_XinitX ["self", "ours", "theirs"] (defScope s_Clashed_XinitX) := ⟨rfl, rfl, rfl, by decide +kernel, rfl, by decide +kernel, by decide +kernel⟩
abbrev s_BadChoice_XinitX : Stmt := inClass (topS 19) 0
abbrev N_BadChoice_XinitX : List Str := ["self", "name"]
theorem sc_BadChoice_XinitX : FnScope N_BadChoice_XinitX ["self", "name"] (defScope s_BadChoice_XinitX) := ⟨rfl, rfl, rfl, by decide +kernel, rfl, by decide +kernel, by decide +kernel⟩
abbrev s_BadJob_XinitX : Stmt := inClass (topS 20) 0
abbrev N_BadJob_XinitX : List Str := ["self", "index"]
theorem sc_BadJob_XinitX : FnScope N_BadJob_XinitX ["self", "index"] (defScope s_BadJob_XinitX) := ⟨rfl, rfl, rfl, by decide +kernel, rfl, by decide +kernel, by decide +kernel⟩
abbrev s_BadPlan_XinitX : Stmt := inClass (topS 21) 0
abbrev N_BadPlan_XinitX : List Str := ["self"]
theorem sc_BadPlan_XinitX : FnScope N_BadPlan_XinitX ["self"] (defScope s_BadPlan_XinitX) := ⟨rfl, rfl, rfl, by decide +kernel, rfl, by decide +kernel, by decide +kernel⟩
abbrev s_NoTurn_XinitX : Stmt := inClass (topS 22) 0
abbrev N_NoTurn_XinitX : List Str := ["self", "count"]
theorem sc_NoTurn_XinitX : FnScope N_NoTurn_XinitX ["self", "count"] (defScope s_NoTurn_XinitX) := ⟨rfl, rfl, rfl, by decide +kernel, rfl, by decide +kernel, by decide +kernel⟩
abbrev s_NotClosed_XinitX : Stmt := inClass (topS 23) 0
abbrev N_NotClosed_XinitX : List Str := ["self", "index"]
theorem sc_NotClosed_XinitX : FnScope N_NotClosed_XinitX ["self", "index"] (defScope s_NotClosed_XinitX) := ⟨rfl, rfl, rfl, by decide +kernel, rfl, by decide +kernel, by decide +kernel⟩
abbrev s_BadRelease_XinitX : Stmt := inClass (topS 24) 0
abbrev N_BadRelease_XinitX : List Str := ["self", "name", "number"]
theorem sc_BadRelease_XinitX : FnScope N_BadRelease_XinitX ["self", "name", "number"] (defScope s_BadRelease_XinitX) := ⟨rfl, rfl, rfl, by decide +kernel, rfl, by decide +kernel, by decide +kernel⟩
abbrev s_NoRelease_XinitX : Stmt := inClass (topS 25) 0
abbrev N_NoRelease_XinitX : List Str := ["self", "name", "number"]
theorem sc_NoRelease_XinitX : FnScope N_NoRelease_XinitX ["self", "name", "number"] (defScope s_NoRelease_XinitX) := ⟨rfl, rfl, rfl, by decide +kernel, rfl, by decide +kernel, by decide +kernel⟩
abbrev s_NoChoice_XinitX : Stmt := inClass (topS 26) 0
abbrev N_NoChoice_XinitX : List Str := ["self"]
theorem sc_NoChoice_XinitX : FnScope N_NoChoice_XinitX ["self"] (defScope s_NoChoice_XinitX) := ⟨rfl, rfl, rfl, by decide +kernel, rfl, by decide +kernel, by decide +kernel⟩
abbrev s_BadSystem_XinitX : Stmt := inClass (topS 27) 0
abbrev N_BadSystem_XinitX : List Str := ["self", "name"]
theorem sc_BadSystem_XinitX : FnScope N_BadSystem_XinitX ["self", "name"] (defScope s_BadSystem_XinitX) := ⟨rfl, rfl, rfl, by decide +kernel, rfl, by decide +kernel, by decide +kernel⟩
abbrev s_Occupied_XinitX : Stmt := inClass (topS 28) 0
abbrev N_Occupied_XinitX : List Str := ["self", "path"]
theorem sc_Occupied_XinitX : FnScope N_Occupied_XinitX ["self", "path"] (defScope s_Occupied_XinitX) := ⟨rfl, rfl, rfl, by decide +kernel, rfl, by decide +kernel, by decide +kernel⟩
abbrev s_NotWaiting_XinitX : Stmt := inClass (topS 29) 0
abbrev N_NotWaiting_XinitX : List Str := ["self", "path"]
theorem sc_NotWaiting_XinitX : FnScope N_NotWaiting_XinitX ["self", "path"] (defScope s_NotWaiting_XinitX) := ⟨rfl, rfl, rfl, by decide +kernel, rfl, by decide +kernel, by decide +kernel⟩
abbrev s_BadRecord_XinitX : Stmt := inClass (topS 30) 0
abbrev N_BadRecord_XinitX : List Str := ["self", "name"]
theorem sc_BadRecord_XinitX : FnScope N_BadRecord_XinitX ["self", "name"] (defScope s_BadRecord_XinitX) := ⟨rfl, rfl, rfl, by decide +kernel, rfl, by decide +kernel, by decide +kernel⟩
abbrev s_Down_XinitX : Stmt := inClass (topS 31) 0
abbrev N_Down_XinitX : List Str := ["self"]
theorem sc_Down_XinitX : FnScope N_Down_XinitX ["self"] (defScope s_Down_XinitX) := ⟨rfl, rfl, rfl, by decide +kernel, rfl, by decide +kernel, by decide +kernel⟩
abbrev s_Unrecorded_XinitX : Stmt := inClass (topS 32) 0
abbrev N_Unrecorded_XinitX : List Str := ["self"]
theorem sc_Unrecorded_XinitX : FnScope N_Unrecorded_XinitX ["self"] (defScope s_Unrecorded_XinitX) := ⟨rfl, rfl, rfl, by decide +kernel, rfl, by decide +kernel, by decide +kernel⟩
abbrev s_Unchanged_XinitX : Stmt := inClass (topS 33) 0
abbrev N_Unchanged_XinitX : List Str := ["self"]
theorem sc_Unchanged_XinitX : FnScope N_Unchanged_XinitX ["self"] (defScope s_Unchanged_XinitX) := ⟨rfl, rfl, rfl, by decide +kernel, rfl, by decide +kernel, by decide +kernel⟩
abbrev s_TooFew_XinitX : Stmt := inClass (topS 34) 0
abbrev N_TooFew_XinitX : List Str := ["self", "count"]
theorem sc_TooFew_XinitX : FnScope N_TooFew_XinitX ["self", "count"] (defScope s_TooFew_XinitX) := ⟨rfl, rfl, rfl, by decide +kernel, rfl, by decide +kernel, by decide +kernel⟩
abbrev s_UnknownField_XinitX : Stmt := inClass (topS 35) 0
abbrev N_UnknownField_XinitX : List Str := ["self", "name"]
theorem sc_UnknownField_XinitX : FnScope N_UnknownField_XinitX ["self", "name"] (defScope s_UnknownField_XinitX) := ⟨rfl, rfl, rfl, by decide +kernel, rfl, by decide +kernel, by decide +kernel⟩
abbrev s_law_source : Stmt := topS 37
abbrev N_law_source : List Str := ["_law_script", "_law_cell_number", "_law_cell"]
theorem sc_law_source : FnScope N_law_source ["_law_script", "_law_cell_number"] (defScope s_law_source) := ⟨rfl, rfl, rfl, by decide +kernel, rfl, by decide +kernel, by decide +kernel⟩
abbrev s_law_draw : Stmt := topS 38
abbrev N_law_draw : List Str := ["_law_source_here", "_law_bound", "_law_digit", "_law_mixed"]
theorem sc_law_draw : FnScope N_law_draw ["_law_source_here", "_law_bound"] (defScope s_law_draw) := ⟨rfl, rfl, rfl, by decide +kernel, rfl, by decide +kernel, by decide +kernel⟩
abbrev s_law_flags : Stmt := topS 40
abbrev N_law_flags : List Str := ["_law_e", "_law_flags_here"]
theorem sc_law_flags : FnScope N_law_flags ["_law_e"] (defScope s_law_flags) := ⟨rfl, rfl, rfl, by decide +kernel, rfl, by decide +kernel, by decide +kernel⟩
abbrev s_law_kept : Stmt := topS 41
abbrev N_law_kept : List Str := ["_law_errors", "_law_some", "_law_other", "_law_text", "_law_more", "_law_loop", "_law_found", "_law_due"]
theorem sc_law_kept : FnScope N_law_kept ["_law_errors", "_law_some", "_law_other", "_law_text", "_law_more", "_law_loop"] (defScope s_law_kept) := ⟨rfl, rfl, rfl, by decide +kernel, rfl, by decide +kernel, by decide +kernel⟩
abbrev s_law_named : Stmt := topS 42
abbrev N_law_named : List Str := ["_law_some", "_law_other", "_law_text", "_law_more", "_law_loop", "_law_found", "_law_refused", "_law_outside", "_law_absent", "_law_due"]
theorem sc_law_named : FnScope N_law_named ["_law_some", "_law_other", "_law_text", "_law_more", "_law_loop"] (defScope s_law_named) := ⟨rfl, rfl, rfl, by decide +kernel, rfl, by decide +kernel, by decide +kernel⟩
abbrev s_law_later_kept : Stmt := topS 43
abbrev N_law_later_kept : List Str := ["_law_errors", "_law_some", "_law_other", "_law_text", "_law_more", "_law_found", "_law_due"]
theorem sc_law_later_kept : FnScope N_law_later_kept ["_law_errors", "_law_some", "_law_other", "_law_text", "_law_more"] (defScope s_law_later_kept) := ⟨rfl, rfl, rfl, by decide +kernel, rfl, by decide +kernel, by decide +kernel⟩
abbrev s_law_later_named : Stmt := topS 44
abbrev N_law_later_named : List Str := ["_law_some", "_law_other", "_law_text", "_law_more", "_law_clashed", "_law_bad", "_law_none", "_law_found", "_law_due"]
theorem sc_law_later_named : FnScope N_law_later_named ["_law_some", "_law_other", "_law_text", "_law_more"] (defScope s_law_later_named) := ⟨rfl, rfl, rfl, by decide +kernel, rfl, by decide +kernel, by decide +kernel⟩
abbrev s_law : Stmt := topS 45
abbrev N_law : List Str := ["_law_script", "_law_turn", "_law_source_here", "_law_some", "_law_other", "_law_chars", "_law_text", "_law_letter", "_law_more", "_law_loop", "_law_errors", "_law_later", "_law_due", "_law_second", "_law_first", "_law_error"]
theorem sc_law : FnScope N_law ["_law_script"] (defScope s_law) := ⟨rfl, rfl, rfl, by decide +kernel, rfl, by decide +kernel, by decide +kernel⟩
structure Ad where
  c_SourceError : Addr
  c_BadName : Addr
  c_BadPath : Addr
  c_NoFile : Addr
  c_BadHunk : Addr
  c_BadPatch : Addr
  c_Refused : Addr
  c_Entangled : Addr
  c_BadSeries : Addr
  c_Stopped : Addr
  c_BadRecipe : Addr
  c_Outside : Addr
  c_Absent : Addr
  c_BadArchive : Addr
  c_NoPlan : Addr
  c_NoOrder : Addr
  c_NoPatch : Addr
  c_Clashed : Addr
  c_BadChoice : Addr
  c_BadJob : Addr
  c_BadPlan : Addr
  c_NoTurn : Addr
  c_NotClosed : Addr
  c_BadRelease : Addr
  c_NoRelease : Addr
  c_NoChoice : Addr
  c_BadSystem : Addr
  c_Occupied : Addr
  c_NotWaiting : Addr
  c_BadRecord : Addr
  c_Down : Addr
  c_Unrecorded : Addr
  c_Unchanged : Addr
  c_TooFew : Addr
  c_UnknownField : Addr
  a_BadName_XinitX : Addr
  d_BadName_XinitX : FuncData
  a_BadPath_XinitX : Addr
  d_BadPath_XinitX : FuncData
  a_NoFile_XinitX : Addr
  d_NoFile_XinitX : FuncData
  a_BadHunk_XinitX : Addr
  d_BadHunk_XinitX : FuncData
  a_BadPatch_XinitX : Addr
  d_BadPatch_XinitX : FuncData
  a_Refused_XinitX : Addr
  d_Refused_XinitX : FuncData
  a_Entangled_XinitX : Addr
  d_Entangled_XinitX : FuncData
  a_BadSeries_XinitX : Addr
  d_BadSeries_XinitX : FuncData
  a_Stopped_XinitX : Addr
  d_Stopped_XinitX : FuncData
  a_BadRecipe_XinitX : Addr
  d_BadRecipe_XinitX : FuncData
  a_Outside_XinitX : Addr
  d_Outside_XinitX : FuncData
  a_Absent_XinitX : Addr
  d_Absent_XinitX : FuncData
  a_BadArchive_XinitX : Addr
  d_BadArchive_XinitX : FuncData
  a_NoPlan_XinitX : Addr
  d_NoPlan_XinitX : FuncData
  a_NoOrder_XinitX : Addr
  d_NoOrder_XinitX : FuncData
  a_NoPatch_XinitX : Addr
  d_NoPatch_XinitX : FuncData
  a_Clashed_XinitX : Addr
  d_Clashed_XinitX : FuncData
  a_BadChoice_XinitX : Addr
  d_BadChoice_XinitX : FuncData
  a_BadJob_XinitX : Addr
  d_BadJob_XinitX : FuncData
  a_BadPlan_XinitX : Addr
  d_BadPlan_XinitX : FuncData
  a_NoTurn_XinitX : Addr
  d_NoTurn_XinitX : FuncData
  a_NotClosed_XinitX : Addr
  d_NotClosed_XinitX : FuncData
  a_BadRelease_XinitX : Addr
  d_BadRelease_XinitX : FuncData
  a_NoRelease_XinitX : Addr
  d_NoRelease_XinitX : FuncData
  a_NoChoice_XinitX : Addr
  d_NoChoice_XinitX : FuncData
  a_BadSystem_XinitX : Addr
  d_BadSystem_XinitX : FuncData
  a_Occupied_XinitX : Addr
  d_Occupied_XinitX : FuncData
  a_NotWaiting_XinitX : Addr
  d_NotWaiting_XinitX : FuncData
  a_BadRecord_XinitX : Addr
  d_BadRecord_XinitX : FuncData
  a_Down_XinitX : Addr
  d_Down_XinitX : FuncData
  a_Unrecorded_XinitX : Addr
  d_Unrecorded_XinitX : FuncData
  a_Unchanged_XinitX : Addr
  d_Unchanged_XinitX : FuncData
  a_TooFew_XinitX : Addr
  d_TooFew_XinitX : FuncData
  a_UnknownField_XinitX : Addr
  d_UnknownField_XinitX : FuncData
  a_law_source : Addr
  d_law_source : FuncData
  a_law_draw : Addr
  d_law_draw : FuncData
  a_law_flags : Addr
  d_law_flags : FuncData
  a_law_kept : Addr
  d_law_kept : FuncData
  a_law_named : Addr
  d_law_named : FuncData
  a_law_later_kept : Addr
  d_law_later_kept : FuncData
  a_law_later_named : Addr
  d_law_later_named : FuncData
  a_law : Addr
  d_law : FuncData
structure Txt (P : Program) (K : PySem.W.Frag) (mg : Str → Option Value) (ad : Ad) : Prop where
  n_ValueError : mg "ValueError" = none
  n_int : mg "int" = none
  n_isinstance : mg "isinstance" = none
  n_len : mg "len" = none
  n_max : mg "max" = none
  n_min : mg "min" = none
  n_range : mg "range" = none
  n_tuple : mg "tuple" = none
  hnx : PySem.W.specialIn K (.builtin "object.__class__") "__get__" = some (some (.builtin "getset_descriptor.__get__"))
  tkx : PySem.W.takesIn K (.builtin "object.__class__") = some true
  mg_SourceError : mg "SourceError" = some (.ref ad.c_SourceError)
  bi_SourceError : BaseI K ad.c_SourceError
  mg_BadName : mg "BadName" = some (.ref ad.c_BadName)
  ox_BadName : OxF K ad.c_BadName ad.a_BadName_XinitX
  na_BadName_name : PySem.W.findIn K (.ref ad.c_BadName) "name" = some none
  mg_BadPath : mg "BadPath" = some (.ref ad.c_BadPath)
  ox_BadPath : OxF K ad.c_BadPath ad.a_BadPath_XinitX
  na_BadPath_path : PySem.W.findIn K (.ref ad.c_BadPath) "path" = some none
  mg_NoFile : mg "NoFile" = some (.ref ad.c_NoFile)
  ox_NoFile : OxF K ad.c_NoFile ad.a_NoFile_XinitX
  na_NoFile_path : PySem.W.findIn K (.ref ad.c_NoFile) "path" = some none
  mg_BadHunk : mg "BadHunk" = some (.ref ad.c_BadHunk)
  ox_BadHunk : OxF K ad.c_BadHunk ad.a_BadHunk_XinitX
  na_BadHunk_index : PySem.W.findIn K (.ref ad.c_BadHunk) "index" = some none
  mg_BadPatch : mg "BadPatch" = some (.ref ad.c_BadPatch)
  ox_BadPatch : OxF K ad.c_BadPatch ad.a_BadPatch_XinitX
  na_BadPatch_path : PySem.W.findIn K (.ref ad.c_BadPatch) "path" = some none
  mg_Refused : mg "Refused" = some (.ref ad.c_Refused)
  ox_Refused : OxF K ad.c_Refused ad.a_Refused_XinitX
  na_Refused_path : PySem.W.findIn K (.ref ad.c_Refused) "path" = some none
  na_Refused_index : PySem.W.findIn K (.ref ad.c_Refused) "index" = some none
  mg_Entangled : mg "Entangled" = some (.ref ad.c_Entangled)
  ox_Entangled : OxF K ad.c_Entangled ad.a_Entangled_XinitX
  na_Entangled_path : PySem.W.findIn K (.ref ad.c_Entangled) "path" = some none
  mg_BadSeries : mg "BadSeries" = some (.ref ad.c_BadSeries)
  ox_BadSeries : OxF K ad.c_BadSeries ad.a_BadSeries_XinitX
  na_BadSeries_index : PySem.W.findIn K (.ref ad.c_BadSeries) "index" = some none
  mg_Stopped : mg "Stopped" = some (.ref ad.c_Stopped)
  ox_Stopped : OxF K ad.c_Stopped ad.a_Stopped_XinitX
  na_Stopped_index : PySem.W.findIn K (.ref ad.c_Stopped) "index" = some none
  mg_BadRecipe : mg "BadRecipe" = some (.ref ad.c_BadRecipe)
  ox_BadRecipe : OxF K ad.c_BadRecipe ad.a_BadRecipe_XinitX
  na_BadRecipe_index : PySem.W.findIn K (.ref ad.c_BadRecipe) "index" = some none
  mg_Outside : mg "Outside" = some (.ref ad.c_Outside)
  ox_Outside : OxF K ad.c_Outside ad.a_Outside_XinitX
  na_Outside_output : PySem.W.findIn K (.ref ad.c_Outside) "output" = some none
  na_Outside_read : PySem.W.findIn K (.ref ad.c_Outside) "read" = some none
  mg_Absent : mg "Absent" = some (.ref ad.c_Absent)
  ox_Absent : OxF K ad.c_Absent ad.a_Absent_XinitX
  na_Absent_output : PySem.W.findIn K (.ref ad.c_Absent) "output" = some none
  na_Absent_read : PySem.W.findIn K (.ref ad.c_Absent) "read" = some none
  mg_BadArchive : mg "BadArchive" = some (.ref ad.c_BadArchive)
  ox_BadArchive : OxF K ad.c_BadArchive ad.a_BadArchive_XinitX
  na_BadArchive_name : PySem.W.findIn K (.ref ad.c_BadArchive) "name" = some none
  mg_NoPlan : mg "NoPlan" = some (.ref ad.c_NoPlan)
  ox_NoPlan : OxF K ad.c_NoPlan ad.a_NoPlan_XinitX
  na_NoPlan_ring : PySem.W.findIn K (.ref ad.c_NoPlan) "ring" = some none
  mg_NoOrder : mg "NoOrder" = some (.ref ad.c_NoOrder)
  ox_NoOrder : OxF K ad.c_NoOrder ad.a_NoOrder_XinitX
  mg_NoPatch : mg "NoPatch" = some (.ref ad.c_NoPatch)
  ox_NoPatch : OxF K ad.c_NoPatch ad.a_NoPatch_XinitX
  na_NoPatch_name : PySem.W.findIn K (.ref ad.c_NoPatch) "name" = some none
  mg_Clashed : mg "Clashed" = some (.ref ad.c_Clashed)
  ox_Clashed : OxF K ad.c_Clashed ad.a_Clashed_XinitX
  na_Clashed_ours : PySem.W.findIn K (.ref ad.c_Clashed) "ours" = some none
  na_Clashed_theirs : PySem.W.findIn K (.ref ad.c_Clashed) "theirs" = some none
  mg_BadChoice : mg "BadChoice" = some (.ref ad.c_BadChoice)
  ox_BadChoice : OxF K ad.c_BadChoice ad.a_BadChoice_XinitX
  na_BadChoice_name : PySem.W.findIn K (.ref ad.c_BadChoice) "name" = some none
  mg_BadJob : mg "BadJob" = some (.ref ad.c_BadJob)
  ox_BadJob : OxF K ad.c_BadJob ad.a_BadJob_XinitX
  na_BadJob_index : PySem.W.findIn K (.ref ad.c_BadJob) "index" = some none
  mg_BadPlan : mg "BadPlan" = some (.ref ad.c_BadPlan)
  ox_BadPlan : OxF K ad.c_BadPlan ad.a_BadPlan_XinitX
  mg_NoTurn : mg "NoTurn" = some (.ref ad.c_NoTurn)
  ox_NoTurn : OxF K ad.c_NoTurn ad.a_NoTurn_XinitX
  na_NoTurn_count : PySem.W.findIn K (.ref ad.c_NoTurn) "count" = some none
  mg_NotClosed : mg "NotClosed" = some (.ref ad.c_NotClosed)
  ox_NotClosed : OxF K ad.c_NotClosed ad.a_NotClosed_XinitX
  na_NotClosed_index : PySem.W.findIn K (.ref ad.c_NotClosed) "index" = some none
  mg_BadRelease : mg "BadRelease" = some (.ref ad.c_BadRelease)
  ox_BadRelease : OxF K ad.c_BadRelease ad.a_BadRelease_XinitX
  na_BadRelease_name : PySem.W.findIn K (.ref ad.c_BadRelease) "name" = some none
  na_BadRelease_number : PySem.W.findIn K (.ref ad.c_BadRelease) "number" = some none
  mg_NoRelease : mg "NoRelease" = some (.ref ad.c_NoRelease)
  ox_NoRelease : OxF K ad.c_NoRelease ad.a_NoRelease_XinitX
  na_NoRelease_name : PySem.W.findIn K (.ref ad.c_NoRelease) "name" = some none
  na_NoRelease_number : PySem.W.findIn K (.ref ad.c_NoRelease) "number" = some none
  mg_NoChoice : mg "NoChoice" = some (.ref ad.c_NoChoice)
  ox_NoChoice : OxF K ad.c_NoChoice ad.a_NoChoice_XinitX
  mg_BadSystem : mg "BadSystem" = some (.ref ad.c_BadSystem)
  ox_BadSystem : OxF K ad.c_BadSystem ad.a_BadSystem_XinitX
  na_BadSystem_name : PySem.W.findIn K (.ref ad.c_BadSystem) "name" = some none
  mg_Occupied : mg "Occupied" = some (.ref ad.c_Occupied)
  ox_Occupied : OxF K ad.c_Occupied ad.a_Occupied_XinitX
  na_Occupied_path : PySem.W.findIn K (.ref ad.c_Occupied) "path" = some none
  mg_NotWaiting : mg "NotWaiting" = some (.ref ad.c_NotWaiting)
  ox_NotWaiting : OxF K ad.c_NotWaiting ad.a_NotWaiting_XinitX
  na_NotWaiting_path : PySem.W.findIn K (.ref ad.c_NotWaiting) "path" = some none
  mg_BadRecord : mg "BadRecord" = some (.ref ad.c_BadRecord)
  ox_BadRecord : OxF K ad.c_BadRecord ad.a_BadRecord_XinitX
  na_BadRecord_name : PySem.W.findIn K (.ref ad.c_BadRecord) "name" = some none
  mg_Down : mg "Down" = some (.ref ad.c_Down)
  ox_Down : OxF K ad.c_Down ad.a_Down_XinitX
  mg_Unrecorded : mg "Unrecorded" = some (.ref ad.c_Unrecorded)
  ox_Unrecorded : OxF K ad.c_Unrecorded ad.a_Unrecorded_XinitX
  mg_Unchanged : mg "Unchanged" = some (.ref ad.c_Unchanged)
  ox_Unchanged : OxF K ad.c_Unchanged ad.a_Unchanged_XinitX
  mg_TooFew : mg "TooFew" = some (.ref ad.c_TooFew)
  ox_TooFew : OxF K ad.c_TooFew ad.a_TooFew_XinitX
  na_TooFew_count : PySem.W.findIn K (.ref ad.c_TooFew) "count" = some none
  mg_UnknownField : mg "UnknownField" = some (.ref ad.c_UnknownField)
  ox_UnknownField : OxF K ad.c_UnknownField ad.a_UnknownField_XinitX
  na_UnknownField_name : PySem.W.findIn K (.ref ad.c_UnknownField) "name" = some none
  kb_UnknownField_name : KBn K ad.d_UnknownField_XinitX ["self", "name"] 1 ["name"] (fun us ws => us ++ ws) (fun us ws => us ++ ws)
  kb_TooFew_count : KBn K ad.d_TooFew_XinitX ["self", "count"] 1 ["count"] (fun us ws => us ++ ws) (fun us ws => us ++ ws)
  kb_NoPlan_ring : KBn K ad.d_NoPlan_XinitX ["self", "ring"] 1 ["ring"] (fun us ws => us ++ ws) (fun us ws => us ++ ws)
  kb_BadArchive_name : KBn K ad.d_BadArchive_XinitX ["self", "name"] 1 ["name"] (fun us ws => us ++ ws) (fun us ws => us ++ ws)
  kb_Absent_output_read : KBn K ad.d_Absent_XinitX ["self", "output", "read"] 1 ["output", "read"] (fun us ws => us ++ ws) (fun us ws => us ++ ws)
  kb_Outside_output_read : KBn K ad.d_Outside_XinitX ["self", "output", "read"] 1 ["output", "read"] (fun us ws => us ++ ws) (fun us ws => us ++ ws)
  kb_BadRecipe_index : KBn K ad.d_BadRecipe_XinitX ["self", "index"] 1 ["index"] (fun us ws => us ++ ws) (fun us ws => us ++ ws)
  kb_Stopped_index : KBn K ad.d_Stopped_XinitX ["self", "index"] 1 ["index"] (fun us ws => us ++ ws) (fun us ws => us ++ ws)
  kb_BadSeries_index : KBn K ad.d_BadSeries_XinitX ["self", "index"] 1 ["index"] (fun us ws => us ++ ws) (fun us ws => us ++ ws)
  kb_Entangled_path : KBn K ad.d_Entangled_XinitX ["self", "path"] 1 ["path"] (fun us ws => us ++ ws) (fun us ws => us ++ ws)
  kb_BadPatch_path : KBn K ad.d_BadPatch_XinitX ["self", "path"] 1 ["path"] (fun us ws => us ++ ws) (fun us ws => us ++ ws)
  kb_Refused_path_index : KBn K ad.d_Refused_XinitX ["self", "path", "index"] 1 ["path", "index"] (fun us ws => us ++ ws) (fun us ws => us ++ ws)
  kb_BadHunk_index : KBn K ad.d_BadHunk_XinitX ["self", "index"] 1 ["index"] (fun us ws => us ++ ws) (fun us ws => us ++ ws)
  kb_NoFile_path : KBn K ad.d_NoFile_XinitX ["self", "path"] 1 ["path"] (fun us ws => us ++ ws) (fun us ws => us ++ ws)
  kb_BadPath_path : KBn K ad.d_BadPath_XinitX ["self", "path"] 1 ["path"] (fun us ws => us ++ ws) (fun us ws => us ++ ws)
  kb_BadName_name : KBn K ad.d_BadName_XinitX ["self", "name"] 1 ["name"] (fun us ws => us ++ ws) (fun us ws => us ++ ws)
  kb_BadRecord_name : KBn K ad.d_BadRecord_XinitX ["self", "name"] 1 ["name"] (fun us ws => us ++ ws) (fun us ws => us ++ ws)
  kb_NotWaiting_path : KBn K ad.d_NotWaiting_XinitX ["self", "path"] 1 ["path"] (fun us ws => us ++ ws) (fun us ws => us ++ ws)
  kb_Occupied_path : KBn K ad.d_Occupied_XinitX ["self", "path"] 1 ["path"] (fun us ws => us ++ ws) (fun us ws => us ++ ws)
  kb_BadSystem_name : KBn K ad.d_BadSystem_XinitX ["self", "name"] 1 ["name"] (fun us ws => us ++ ws) (fun us ws => us ++ ws)
  kb_NotClosed_index : KBn K ad.d_NotClosed_XinitX ["self", "index"] 1 ["index"] (fun us ws => us ++ ws) (fun us ws => us ++ ws)
  kb_NoTurn_count : KBn K ad.d_NoTurn_XinitX ["self", "count"] 1 ["count"] (fun us ws => us ++ ws) (fun us ws => us ++ ws)
  kb_BadJob_index : KBn K ad.d_BadJob_XinitX ["self", "index"] 1 ["index"] (fun us ws => us ++ ws) (fun us ws => us ++ ws)
  kb_BadChoice_name : KBn K ad.d_BadChoice_XinitX ["self", "name"] 1 ["name"] (fun us ws => us ++ ws) (fun us ws => us ++ ws)
  kb_NoPatch_name : KBn K ad.d_NoPatch_XinitX ["self", "name"] 1 ["name"] (fun us ws => us ++ ws) (fun us ws => us ++ ws)
  kb_NoRelease_name_number : KBn K ad.d_NoRelease_XinitX ["self", "name", "number"] 1 ["name", "number"] (fun us ws => us ++ ws) (fun us ws => us ++ ws)
  kb_BadRelease_number_name : KBn K ad.d_BadRelease_XinitX ["self", "name", "number"] 1 ["number", "name"] (fun us ws => us ++ ws.reverse) (fun us ws => us ++ ws.reverse)
  kb_Clashed_theirs_ours : KBn K ad.d_Clashed_XinitX ["self", "ours", "theirs"] 1 ["theirs", "ours"] (fun us ws => us ++ ws.reverse) (fun us ws => us ++ ws.reverse)
  f_BadName_XinitX : Fun K "__init__" "BadName.__init__" s_BadName_XinitX ad.a_BadName_XinitX ad.d_BadName_XinitX
  fn_BadName_XinitX : PySem.W.isFn K (.ref ad.a_BadName_XinitX) = true
  fi_BadName_XinitX : PySem.W.fnIn K ad.a_BadName_XinitX = true
  k_BadName_XinitX : PySem.W.keepIn K (.ref ad.a_BadName_XinitX) = true
  b_BadName_XinitX : Binds K ad.d_BadName_XinitX ["self", "name"] []
  f_BadPath_XinitX : Fun K "__init__" "BadPath.__init__" s_BadPath_XinitX ad.a_BadPath_XinitX ad.d_BadPath_XinitX
  fn_BadPath_XinitX : PySem.W.isFn K (.ref ad.a_BadPath_XinitX) = true
  fi_BadPath_XinitX : PySem.W.fnIn K ad.a_BadPath_XinitX = true
  k_BadPath_XinitX : PySem.W.keepIn K (.ref ad.a_BadPath_XinitX) = true
  b_BadPath_XinitX : Binds K ad.d_BadPath_XinitX ["self", "path"] []
  f_NoFile_XinitX : Fun K "__init__" "NoFile.__init__" s_NoFile_XinitX ad.a_NoFile_XinitX ad.d_NoFile_XinitX
  fn_NoFile_XinitX : PySem.W.isFn K (.ref ad.a_NoFile_XinitX) = true
  fi_NoFile_XinitX : PySem.W.fnIn K ad.a_NoFile_XinitX = true
  k_NoFile_XinitX : PySem.W.keepIn K (.ref ad.a_NoFile_XinitX) = true
  b_NoFile_XinitX : Binds K ad.d_NoFile_XinitX ["self", "path"] []
  f_BadHunk_XinitX : Fun K "__init__" "BadHunk.__init__" s_BadHunk_XinitX ad.a_BadHunk_XinitX ad.d_BadHunk_XinitX
  fn_BadHunk_XinitX : PySem.W.isFn K (.ref ad.a_BadHunk_XinitX) = true
  fi_BadHunk_XinitX : PySem.W.fnIn K ad.a_BadHunk_XinitX = true
  k_BadHunk_XinitX : PySem.W.keepIn K (.ref ad.a_BadHunk_XinitX) = true
  b_BadHunk_XinitX : Binds K ad.d_BadHunk_XinitX ["self", "index"] []
  f_BadPatch_XinitX : Fun K "__init__" "BadPatch.__init__" s_BadPatch_XinitX ad.a_BadPatch_XinitX ad.d_BadPatch_XinitX
  fn_BadPatch_XinitX : PySem.W.isFn K (.ref ad.a_BadPatch_XinitX) = true
  fi_BadPatch_XinitX : PySem.W.fnIn K ad.a_BadPatch_XinitX = true
  k_BadPatch_XinitX : PySem.W.keepIn K (.ref ad.a_BadPatch_XinitX) = true
  b_BadPatch_XinitX : Binds K ad.d_BadPatch_XinitX ["self", "path"] []
  f_Refused_XinitX : Fun K "__init__" "Refused.__init__" s_Refused_XinitX ad.a_Refused_XinitX ad.d_Refused_XinitX
  fn_Refused_XinitX : PySem.W.isFn K (.ref ad.a_Refused_XinitX) = true
  fi_Refused_XinitX : PySem.W.fnIn K ad.a_Refused_XinitX = true
  k_Refused_XinitX : PySem.W.keepIn K (.ref ad.a_Refused_XinitX) = true
  b_Refused_XinitX : Binds K ad.d_Refused_XinitX ["self", "path", "index"] []
  f_Entangled_XinitX : Fun K "__init__" "Entangled.__init__" s_Entangled_XinitX ad.a_Entangled_XinitX ad.d_Entangled_XinitX
  fn_Entangled_XinitX : PySem.W.isFn K (.ref ad.a_Entangled_XinitX) = true
  fi_Entangled_XinitX : PySem.W.fnIn K ad.a_Entangled_XinitX = true
  k_Entangled_XinitX : PySem.W.keepIn K (.ref ad.a_Entangled_XinitX) = true
  b_Entangled_XinitX : Binds K ad.d_Entangled_XinitX ["self", "path"] []
  f_BadSeries_XinitX : Fun K "__init__" "BadSeries.__init__" s_BadSeries_XinitX ad.a_BadSeries_XinitX ad.d_BadSeries_XinitX
  fn_BadSeries_XinitX : PySem.W.isFn K (.ref ad.a_BadSeries_XinitX) = true
  fi_BadSeries_XinitX : PySem.W.fnIn K ad.a_BadSeries_XinitX = true
  k_BadSeries_XinitX : PySem.W.keepIn K (.ref ad.a_BadSeries_XinitX) = true
  b_BadSeries_XinitX : Binds K ad.d_BadSeries_XinitX ["self", "index"] []
  f_Stopped_XinitX : Fun K "__init__" "Stopped.__init__" s_Stopped_XinitX ad.a_Stopped_XinitX ad.d_Stopped_XinitX
  fn_Stopped_XinitX : PySem.W.isFn K (.ref ad.a_Stopped_XinitX) = true
  fi_Stopped_XinitX : PySem.W.fnIn K ad.a_Stopped_XinitX = true
  k_Stopped_XinitX : PySem.W.keepIn K (.ref ad.a_Stopped_XinitX) = true
  b_Stopped_XinitX : Binds K ad.d_Stopped_XinitX ["self", "index"] []
  f_BadRecipe_XinitX : Fun K "__init__" "BadRecipe.__init__" s_BadRecipe_XinitX ad.a_BadRecipe_XinitX ad.d_BadRecipe_XinitX
  fn_BadRecipe_XinitX : PySem.W.isFn K (.ref ad.a_BadRecipe_XinitX) = true
  fi_BadRecipe_XinitX : PySem.W.fnIn K ad.a_BadRecipe_XinitX = true
  k_BadRecipe_XinitX : PySem.W.keepIn K (.ref ad.a_BadRecipe_XinitX) = true
  b_BadRecipe_XinitX : Binds K ad.d_BadRecipe_XinitX ["self", "index"] []
  f_Outside_XinitX : Fun K "__init__" "Outside.__init__" s_Outside_XinitX ad.a_Outside_XinitX ad.d_Outside_XinitX
  fn_Outside_XinitX : PySem.W.isFn K (.ref ad.a_Outside_XinitX) = true
  fi_Outside_XinitX : PySem.W.fnIn K ad.a_Outside_XinitX = true
  k_Outside_XinitX : PySem.W.keepIn K (.ref ad.a_Outside_XinitX) = true
  b_Outside_XinitX : Binds K ad.d_Outside_XinitX ["self", "output", "read"] []
  f_Absent_XinitX : Fun K "__init__" "Absent.__init__" s_Absent_XinitX ad.a_Absent_XinitX ad.d_Absent_XinitX
  fn_Absent_XinitX : PySem.W.isFn K (.ref ad.a_Absent_XinitX) = true
  fi_Absent_XinitX : PySem.W.fnIn K ad.a_Absent_XinitX = true
  k_Absent_XinitX : PySem.W.keepIn K (.ref ad.a_Absent_XinitX) = true
  b_Absent_XinitX : Binds K ad.d_Absent_XinitX ["self", "output", "read"] []
  f_BadArchive_XinitX : Fun K "__init__" "BadArchive.__init__" s_BadArchive_XinitX ad.a_BadArchive_XinitX ad.d_BadArchive_XinitX
  fn_BadArchive_XinitX : PySem.W.isFn K (.ref ad.a_BadArchive_XinitX) = true
  fi_BadArchive_XinitX : PySem.W.fnIn K ad.a_BadArchive_XinitX = true
  k_BadArchive_XinitX : PySem.W.keepIn K (.ref ad.a_BadArchive_XinitX) = true
  b_BadArchive_XinitX : Binds K ad.d_BadArchive_XinitX ["self", "name"] []
  f_NoPlan_XinitX : Fun K "__init__" "NoPlan.__init__" s_NoPlan_XinitX ad.a_NoPlan_XinitX ad.d_NoPlan_XinitX
  fn_NoPlan_XinitX : PySem.W.isFn K (.ref ad.a_NoPlan_XinitX) = true
  fi_NoPlan_XinitX : PySem.W.fnIn K ad.a_NoPlan_XinitX = true
  k_NoPlan_XinitX : PySem.W.keepIn K (.ref ad.a_NoPlan_XinitX) = true
  b_NoPlan_XinitX : Binds K ad.d_NoPlan_XinitX ["self", "ring"] []
  f_NoOrder_XinitX : Fun K "__init__" "NoOrder.__init__" s_NoOrder_XinitX ad.a_NoOrder_XinitX ad.d_NoOrder_XinitX
  fn_NoOrder_XinitX : PySem.W.isFn K (.ref ad.a_NoOrder_XinitX) = true
  fi_NoOrder_XinitX : PySem.W.fnIn K ad.a_NoOrder_XinitX = true
  k_NoOrder_XinitX : PySem.W.keepIn K (.ref ad.a_NoOrder_XinitX) = true
  b_NoOrder_XinitX : Binds K ad.d_NoOrder_XinitX ["self"] []
  f_NoPatch_XinitX : Fun K "__init__" "NoPatch.__init__" s_NoPatch_XinitX ad.a_NoPatch_XinitX ad.d_NoPatch_XinitX
  fn_NoPatch_XinitX : PySem.W.isFn K (.ref ad.a_NoPatch_XinitX) = true
  fi_NoPatch_XinitX : PySem.W.fnIn K ad.a_NoPatch_XinitX = true
  k_NoPatch_XinitX : PySem.W.keepIn K (.ref ad.a_NoPatch_XinitX) = true
  b_NoPatch_XinitX : Binds K ad.d_NoPatch_XinitX ["self", "name"] []
  f_Clashed_XinitX : Fun K "__init__" "Clashed.__init__" s_Clashed_XinitX ad.a_Clashed_XinitX ad.d_Clashed_XinitX
  fn_Clashed_XinitX : PySem.W.isFn K (.ref ad.a_Clashed_XinitX) = true
  fi_Clashed_XinitX : PySem.W.fnIn K ad.a_Clashed_XinitX = true
  k_Clashed_XinitX : PySem.W.keepIn K (.ref ad.a_Clashed_XinitX) = true
  b_Clashed_XinitX : Binds K ad.d_Clashed_XinitX ["self", "ours", "theirs"] []
  f_BadChoice_XinitX : Fun K "__init__" "BadChoice.__init__" s_BadChoice_XinitX ad.a_BadChoice_XinitX ad.d_BadChoice_XinitX
  fn_BadChoice_XinitX : PySem.W.isFn K (.ref ad.a_BadChoice_XinitX) = true
  fi_BadChoice_XinitX : PySem.W.fnIn K ad.a_BadChoice_XinitX = true
  k_BadChoice_XinitX : PySem.W.keepIn K (.ref ad.a_BadChoice_XinitX) = true
  b_BadChoice_XinitX : Binds K ad.d_BadChoice_XinitX ["self", "name"] []
  f_BadJob_XinitX : Fun K "__init__" "BadJob.__init__" s_BadJob_XinitX ad.a_BadJob_XinitX ad.d_BadJob_XinitX
  fn_BadJob_XinitX : PySem.W.isFn K (.ref ad.a_BadJob_XinitX) = true
  fi_BadJob_XinitX : PySem.W.fnIn K ad.a_BadJob_XinitX = true
  k_BadJob_XinitX : PySem.W.keepIn K (.ref ad.a_BadJob_XinitX) = true
  b_BadJob_XinitX : Binds K ad.d_BadJob_XinitX ["self", "index"] []
  f_BadPlan_XinitX : Fun K "__init__" "BadPlan.__init__" s_BadPlan_XinitX ad.a_BadPlan_XinitX ad.d_BadPlan_XinitX
  fn_BadPlan_XinitX : PySem.W.isFn K (.ref ad.a_BadPlan_XinitX) = true
  fi_BadPlan_XinitX : PySem.W.fnIn K ad.a_BadPlan_XinitX = true
  k_BadPlan_XinitX : PySem.W.keepIn K (.ref ad.a_BadPlan_XinitX) = true
  b_BadPlan_XinitX : Binds K ad.d_BadPlan_XinitX ["self"] []
  f_NoTurn_XinitX : Fun K "__init__" "NoTurn.__init__" s_NoTurn_XinitX ad.a_NoTurn_XinitX ad.d_NoTurn_XinitX
  fn_NoTurn_XinitX : PySem.W.isFn K (.ref ad.a_NoTurn_XinitX) = true
  fi_NoTurn_XinitX : PySem.W.fnIn K ad.a_NoTurn_XinitX = true
  k_NoTurn_XinitX : PySem.W.keepIn K (.ref ad.a_NoTurn_XinitX) = true
  b_NoTurn_XinitX : Binds K ad.d_NoTurn_XinitX ["self", "count"] []
  f_NotClosed_XinitX : Fun K "__init__" "NotClosed.__init__" s_NotClosed_XinitX ad.a_NotClosed_XinitX ad.d_NotClosed_XinitX
  fn_NotClosed_XinitX : PySem.W.isFn K (.ref ad.a_NotClosed_XinitX) = true
  fi_NotClosed_XinitX : PySem.W.fnIn K ad.a_NotClosed_XinitX = true
  k_NotClosed_XinitX : PySem.W.keepIn K (.ref ad.a_NotClosed_XinitX) = true
  b_NotClosed_XinitX : Binds K ad.d_NotClosed_XinitX ["self", "index"] []
  f_BadRelease_XinitX : Fun K "__init__" "BadRelease.__init__" s_BadRelease_XinitX ad.a_BadRelease_XinitX ad.d_BadRelease_XinitX
  fn_BadRelease_XinitX : PySem.W.isFn K (.ref ad.a_BadRelease_XinitX) = true
  fi_BadRelease_XinitX : PySem.W.fnIn K ad.a_BadRelease_XinitX = true
  k_BadRelease_XinitX : PySem.W.keepIn K (.ref ad.a_BadRelease_XinitX) = true
  b_BadRelease_XinitX : Binds K ad.d_BadRelease_XinitX ["self", "name", "number"] []
  f_NoRelease_XinitX : Fun K "__init__" "NoRelease.__init__" s_NoRelease_XinitX ad.a_NoRelease_XinitX ad.d_NoRelease_XinitX
  fn_NoRelease_XinitX : PySem.W.isFn K (.ref ad.a_NoRelease_XinitX) = true
  fi_NoRelease_XinitX : PySem.W.fnIn K ad.a_NoRelease_XinitX = true
  k_NoRelease_XinitX : PySem.W.keepIn K (.ref ad.a_NoRelease_XinitX) = true
  b_NoRelease_XinitX : Binds K ad.d_NoRelease_XinitX ["self", "name", "number"] []
  f_NoChoice_XinitX : Fun K "__init__" "NoChoice.__init__" s_NoChoice_XinitX ad.a_NoChoice_XinitX ad.d_NoChoice_XinitX
  fn_NoChoice_XinitX : PySem.W.isFn K (.ref ad.a_NoChoice_XinitX) = true
  fi_NoChoice_XinitX : PySem.W.fnIn K ad.a_NoChoice_XinitX = true
  k_NoChoice_XinitX : PySem.W.keepIn K (.ref ad.a_NoChoice_XinitX) = true
  b_NoChoice_XinitX : Binds K ad.d_NoChoice_XinitX ["self"] []
  f_BadSystem_XinitX : Fun K "__init__" "BadSystem.__init__" s_BadSystem_XinitX ad.a_BadSystem_XinitX ad.d_BadSystem_XinitX
  fn_BadSystem_XinitX : PySem.W.isFn K (.ref ad.a_BadSystem_XinitX) = true
  fi_BadSystem_XinitX : PySem.W.fnIn K ad.a_BadSystem_XinitX = true
  k_BadSystem_XinitX : PySem.W.keepIn K (.ref ad.a_BadSystem_XinitX) = true
  b_BadSystem_XinitX : Binds K ad.d_BadSystem_XinitX ["self", "name"] []
  f_Occupied_XinitX : Fun K "__init__" "Occupied.__init__" s_Occupied_XinitX ad.a_Occupied_XinitX ad.d_Occupied_XinitX
  fn_Occupied_XinitX : PySem.W.isFn K (.ref ad.a_Occupied_XinitX) = true
  fi_Occupied_XinitX : PySem.W.fnIn K ad.a_Occupied_XinitX = true
  k_Occupied_XinitX : PySem.W.keepIn K (.ref ad.a_Occupied_XinitX) = true
  b_Occupied_XinitX : Binds K ad.d_Occupied_XinitX ["self", "path"] []
  f_NotWaiting_XinitX : Fun K "__init__" "NotWaiting.__init__" s_NotWaiting_XinitX ad.a_NotWaiting_XinitX ad.d_NotWaiting_XinitX
  fn_NotWaiting_XinitX : PySem.W.isFn K (.ref ad.a_NotWaiting_XinitX) = true
  fi_NotWaiting_XinitX : PySem.W.fnIn K ad.a_NotWaiting_XinitX = true
  k_NotWaiting_XinitX : PySem.W.keepIn K (.ref ad.a_NotWaiting_XinitX) = true
  b_NotWaiting_XinitX : Binds K ad.d_NotWaiting_XinitX ["self", "path"] []
  f_BadRecord_XinitX : Fun K "__init__" "BadRecord.__init__" s_BadRecord_XinitX ad.a_BadRecord_XinitX ad.d_BadRecord_XinitX
  fn_BadRecord_XinitX : PySem.W.isFn K (.ref ad.a_BadRecord_XinitX) = true
  fi_BadRecord_XinitX : PySem.W.fnIn K ad.a_BadRecord_XinitX = true
  k_BadRecord_XinitX : PySem.W.keepIn K (.ref ad.a_BadRecord_XinitX) = true
  b_BadRecord_XinitX : Binds K ad.d_BadRecord_XinitX ["self", "name"] []
  f_Down_XinitX : Fun K "__init__" "Down.__init__" s_Down_XinitX ad.a_Down_XinitX ad.d_Down_XinitX
  fn_Down_XinitX : PySem.W.isFn K (.ref ad.a_Down_XinitX) = true
  fi_Down_XinitX : PySem.W.fnIn K ad.a_Down_XinitX = true
  k_Down_XinitX : PySem.W.keepIn K (.ref ad.a_Down_XinitX) = true
  b_Down_XinitX : Binds K ad.d_Down_XinitX ["self"] []
  f_Unrecorded_XinitX : Fun K "__init__" "Unrecorded.__init__" s_Unrecorded_XinitX ad.a_Unrecorded_XinitX ad.d_Unrecorded_XinitX
  fn_Unrecorded_XinitX : PySem.W.isFn K (.ref ad.a_Unrecorded_XinitX) = true
  fi_Unrecorded_XinitX : PySem.W.fnIn K ad.a_Unrecorded_XinitX = true
  k_Unrecorded_XinitX : PySem.W.keepIn K (.ref ad.a_Unrecorded_XinitX) = true
  b_Unrecorded_XinitX : Binds K ad.d_Unrecorded_XinitX ["self"] []
  f_Unchanged_XinitX : Fun K "__init__" "Unchanged.__init__" s_Unchanged_XinitX ad.a_Unchanged_XinitX ad.d_Unchanged_XinitX
  fn_Unchanged_XinitX : PySem.W.isFn K (.ref ad.a_Unchanged_XinitX) = true
  fi_Unchanged_XinitX : PySem.W.fnIn K ad.a_Unchanged_XinitX = true
  k_Unchanged_XinitX : PySem.W.keepIn K (.ref ad.a_Unchanged_XinitX) = true
  b_Unchanged_XinitX : Binds K ad.d_Unchanged_XinitX ["self"] []
  f_TooFew_XinitX : Fun K "__init__" "TooFew.__init__" s_TooFew_XinitX ad.a_TooFew_XinitX ad.d_TooFew_XinitX
  fn_TooFew_XinitX : PySem.W.isFn K (.ref ad.a_TooFew_XinitX) = true
  fi_TooFew_XinitX : PySem.W.fnIn K ad.a_TooFew_XinitX = true
  k_TooFew_XinitX : PySem.W.keepIn K (.ref ad.a_TooFew_XinitX) = true
  b_TooFew_XinitX : Binds K ad.d_TooFew_XinitX ["self", "count"] []
  f_UnknownField_XinitX : Fun K "__init__" "UnknownField.__init__" s_UnknownField_XinitX ad.a_UnknownField_XinitX ad.d_UnknownField_XinitX
  fn_UnknownField_XinitX : PySem.W.isFn K (.ref ad.a_UnknownField_XinitX) = true
  fi_UnknownField_XinitX : PySem.W.fnIn K ad.a_UnknownField_XinitX = true
  k_UnknownField_XinitX : PySem.W.keepIn K (.ref ad.a_UnknownField_XinitX) = true
  b_UnknownField_XinitX : Binds K ad.d_UnknownField_XinitX ["self", "name"] []
  f_law_source : Fun K "_law_source" "_law_source" s_law_source ad.a_law_source ad.d_law_source
  m_law_source : mg "_law_source" = some (.ref ad.a_law_source)
  k_law_source : PySem.W.keepIn K (.ref ad.a_law_source) = true
  b_law_source : Binds K ad.d_law_source ["_law_script", "_law_cell_number"] []
  f_law_draw : Fun K "_law_draw" "_law_draw" s_law_draw ad.a_law_draw ad.d_law_draw
  m_law_draw : mg "_law_draw" = some (.ref ad.a_law_draw)
  k_law_draw : PySem.W.keepIn K (.ref ad.a_law_draw) = true
  b_law_draw : Binds K ad.d_law_draw ["_law_source_here", "_law_bound"] []
  f_law_flags : Fun K "_law_flags" "_law_flags" s_law_flags ad.a_law_flags ad.d_law_flags
  m_law_flags : mg "_law_flags" = some (.ref ad.a_law_flags)
  k_law_flags : PySem.W.keepIn K (.ref ad.a_law_flags) = true
  b_law_flags : Binds K ad.d_law_flags ["_law_e"] []
  f_law_kept : Fun K "_law_kept" "_law_kept" s_law_kept ad.a_law_kept ad.d_law_kept
  m_law_kept : mg "_law_kept" = some (.ref ad.a_law_kept)
  k_law_kept : PySem.W.keepIn K (.ref ad.a_law_kept) = true
  b_law_kept : Binds K ad.d_law_kept ["_law_errors", "_law_some", "_law_other", "_law_text", "_law_more", "_law_loop"] []
  f_law_named : Fun K "_law_named" "_law_named" s_law_named ad.a_law_named ad.d_law_named
  m_law_named : mg "_law_named" = some (.ref ad.a_law_named)
  k_law_named : PySem.W.keepIn K (.ref ad.a_law_named) = true
  b_law_named : Binds K ad.d_law_named ["_law_some", "_law_other", "_law_text", "_law_more", "_law_loop"] []
  f_law_later_kept : Fun K "_law_later_kept" "_law_later_kept" s_law_later_kept ad.a_law_later_kept ad.d_law_later_kept
  m_law_later_kept : mg "_law_later_kept" = some (.ref ad.a_law_later_kept)
  k_law_later_kept : PySem.W.keepIn K (.ref ad.a_law_later_kept) = true
  b_law_later_kept : Binds K ad.d_law_later_kept ["_law_errors", "_law_some", "_law_other", "_law_text", "_law_more"] []
  f_law_later_named : Fun K "_law_later_named" "_law_later_named" s_law_later_named ad.a_law_later_named ad.d_law_later_named
  m_law_later_named : mg "_law_later_named" = some (.ref ad.a_law_later_named)
  k_law_later_named : PySem.W.keepIn K (.ref ad.a_law_later_named) = true
  b_law_later_named : Binds K ad.d_law_later_named ["_law_some", "_law_other", "_law_text", "_law_more"] []
  f_law : Fun K "law" "law" s_law ad.a_law ad.d_law
  m_law : mg "law" = some (.ref ad.a_law)
  k_law : PySem.W.keepIn K (.ref ad.a_law) = true
  b_law : Binds K ad.d_law ["_law_script"] []
  kt : ktB K ad.c_SourceError [ad.c_BadName, ad.c_BadPath, ad.c_NoFile, ad.c_BadHunk, ad.c_BadPatch, ad.c_Refused, ad.c_Entangled, ad.c_BadSeries, ad.c_Stopped, ad.c_BadRecipe, ad.c_Outside, ad.c_Absent, ad.c_BadArchive, ad.c_NoPlan, ad.c_Unrecorded, ad.c_Unchanged, ad.c_TooFew, ad.c_UnknownField, ad.c_NoOrder, ad.c_NoPatch, ad.c_Clashed, ad.c_BadChoice, ad.c_BadJob, ad.c_BadPlan, ad.c_NoTurn, ad.c_NotClosed, ad.c_BadRelease, ad.c_NoRelease, ad.c_NoChoice, ad.c_BadSystem, ad.c_Occupied, ad.c_NotWaiting, ad.c_BadRecord, ad.c_Down] = true
  nd : [ad.c_BadName, ad.c_BadPath, ad.c_NoFile, ad.c_BadHunk, ad.c_BadPatch, ad.c_Refused, ad.c_Entangled, ad.c_BadSeries, ad.c_Stopped, ad.c_BadRecipe, ad.c_Outside, ad.c_Absent, ad.c_BadArchive, ad.c_NoPlan, ad.c_Unrecorded, ad.c_Unchanged, ad.c_TooFew, ad.c_UnknownField, ad.c_NoOrder, ad.c_NoPatch, ad.c_Clashed, ad.c_BadChoice, ad.c_BadJob, ad.c_BadPlan, ad.c_NoTurn, ad.c_NotClosed, ad.c_BadRelease, ad.c_NoRelease, ad.c_NoChoice, ad.c_BadSystem, ad.c_Occupied, ad.c_NotWaiting, ad.c_BadRecord, ad.c_Down].Nodup
local macro_rules | `(tactic| tm_at "w") => `(tactic| (conv => whnf))
local macro_rules | `(tactic| tm_at "fr") => `(tactic| first | assumption | exact upd_none (by assumption) | exact upd_none (upd_none (by assumption)) | exact upd_none (upd_none (upd_none (by assumption))) | exact upd_none (upd_none (upd_none (upd_none (by assumption)))))
local macro_rules | `(tactic| tm_at "ne") => `(tactic| first | assumption | (apply Ne.symm; assumption) | exact upd_none_ne (by assumption) | exact (upd_none_ne (by assumption)).symm | exact upd_none_ne (upd_none (by assumption)) | exact (upd_none_ne (upd_none (by assumption))).symm | exact upd_none_ne (upd_none (upd_none (by assumption))) | exact (upd_none_ne (upd_none (upd_none (by assumption)))).symm)
local macro_rules | `(tactic| tm_at "heap") => `(tactic| first | assumption | exact upd_same | (refine upd_new ?_ (by tm_at "fr"); tm_at "heap") | (refine upd_oth (by tm_at "ne") ?_; tm_at "heap") | (refine SameB.get (by assumption) (by tm_at "ne") ?_; tm_at "heap") | (refine Same.get (by assumption) ?_; tm_at "heap"))
local macro_rules | `(tactic| tm_at "sq") => `(tactic| first | assumption | exact SqL.of (by tm_at "heap") | exact SqT.of (by tm_at "heap"))
local macro_rules | `(tactic| tm_at "ix") => `(tactic| (conv => whnf); first | refine ⟨_, _, .inl (by tm_at "sq"), rfl, ?_⟩ | refine ⟨_, _, .inr (by tm_at "sq"), rfl, ?_⟩)
local macro_rules | `(tactic| tm_at "sb") => `(tactic| first | assumption | exact SameB.refl | (refine SameB.ws ?_; tm_at "sb") | (refine SameB.wr ?_ (by tm_at "fr"); tm_at "sb") | (refine SameB.trans ?_ (by assumption); tm_at "sb"))
/-! what the errors' __init__s promise -/
def Fmt : V → Prop
  | .str t => t.length ≤ 60
  | .int n => (0 ≤ n ∧ n < 10 ^ 18) ∨ (-60 ≤ n ∧ n ≤ 0)
  | _ => False
theorem neg_len : ∀ n : Fin 61, (Str.ofString (toString (-(n.val : Int)))).length ≤ 60 := by decide +kernel
theorem num_len0 {n : Int} (h : (0 ≤ n ∧ n < 10 ^ 18) ∨ (-60 ≤ n ∧ n ≤ 0)) : (Str.ofString (toString n)).length ≤ 60 := by
  rcases h with ⟨h0, h1⟩ | ⟨h0, h1⟩
  · exact Nat.le_trans (str_len_num (k := 18) h0 (by decide) h1) (by decide)
  · have e : n = -((⟨(-n).toNat, by omega⟩ : Fin 61).val : Int) := by show n = -(((-n).toNat : Nat) : Int); omega
    rw [e]; exact neg_len _
theorem fmt_ok {x : V} {R : Str → Prop} (h : Fmt x) (q : ∀ y : Str, y.length ≤ 60 → R y) :
    (∃ y : Str, x = .str y ∧ y.length ≤ sizeLine ∧ R y) ∨ ∃ i : Int, x = .int i ∧ i.natAbs.log2 < 1920 ∧ R (toString i) := by
  cases x with
  | str t => exact .inl ⟨t, rfl, by rw [sizeLine_eq]; exact Nat.le_trans h (by decide), q t h⟩
  | int n => exact .inr ⟨n, rfl, log2_small (a := 64) (by rcases h with h | h <;> omega) (by decide) (by decide), q _ (num_len0 h)⟩
  | _ => exact h.elim
theorem ini_same {H : Hp} {a d : Addr} {o1 o2 : HO} (hd : H d = none) : SameB a H (upd (upd H d o1) a o2) := SameB.ws (SameB.new hd)
theorem ini_same2 {H : Hp} {a d : Addr} {o1 o2 o3 : HO} (hd : H d = none) : SameB a H (upd (upd (upd H d o1) a o2) d o3) := SameB.wr (ini_same hd) hd
def spIni0 (C : Addr) : Sp := fun vs H Q _ => ∃ a, vs = [.ref a] ∧ H a = some (exo a C none) ∧ Q .non H
def spIni1 (C : Addr) (f : Str) : Sp := fun vs H Q _ => ∃ a x, vs = [.ref a, x] ∧ Fmt x ∧ H a = some (exo a C none) ∧ ∀ H', SameB a H H' → ErrAt H' a C [(f, x)] → Q .non H'
def spIni2 (C : Addr) (f g : Str) : Sp := fun vs H Q _ => ∃ a x y, vs = [.ref a, x, y] ∧ Fmt x ∧ Fmt y ∧ H a = some (exo a C none) ∧ ∀ H', SameB a H H' → ErrAt H' a C [(g, y), (f, x)] → Q .non H'
def spIniL (K : PySem.W.Frag) (C : Addr) (f : Str) : Sp := fun vs H Q _ => ∃ a p xs, vs = [.ref a, .ref p] ∧ SqT K H p xs ∧ xs.length ≤ 100 ∧ H a = some (exo a C none) ∧ ∀ H', SameB a H H' → ErrAt H' a C [(f, .ref p)] → Q .non H'
/-- .. and what a call of the class then gives -/
theorem mk_sm {H H' : Hp} {a : Addr} {o : HO} (ha : H a = none) (s : SameB a (upd H a o) H') : Same H H' := fun b u h => s b u (ne_of_none h ha) (upd_new h ha)
theorem mk0 {C : Addr} {H : Hp} {R : Addr → Hp → Prop} (q : ∀ a H', Same H H' → ErrAt H' a C [] → R a H') : ∀ a, H a = none → spIni0 C [.ref a] (upd H a (exo a C none)) (fun v H3 => v = .non ∧ R a H3) (fun _ _ _ => False) :=
  fun a ha => ⟨a, rfl, upd_same, rfl, q a _ (Same.new ha) (.inl ⟨rfl, upd_same⟩)⟩
theorem mk1 {C : Addr} {f : Str} {x : V} {H : Hp} {R : Addr → Hp → Prop} (hx : Fmt x) (q : ∀ a H', Same H H' → ErrAt H' a C [(f, x)] → R a H') : ∀ a, H a = none → spIni1 C f [.ref a, x] (upd H a (exo a C none)) (fun v H3 => v = .non ∧ R a H3) (fun _ _ _ => False) :=
  fun a ha => ⟨a, x, rfl, hx, upd_same, fun H' s e => ⟨rfl, q a _ (mk_sm ha s) e⟩⟩
theorem mk2 {C : Addr} {f g : Str} {x y : V} {H : Hp} {R : Addr → Hp → Prop} (hx : Fmt x) (hy : Fmt y) (q : ∀ a H', Same H H' → ErrAt H' a C [(g, y), (f, x)] → R a H') : ∀ a, H a = none → spIni2 C f g [.ref a, x, y] (upd H a (exo a C none)) (fun v H3 => v = .non ∧ R a H3) (fun _ _ _ => False) :=
  fun a ha => ⟨a, x, y, rfl, hx, hy, upd_same, fun H' s e => ⟨rfl, q a _ (mk_sm ha s) e⟩⟩
theorem mkL {K : PySem.W.Frag} {C : Addr} {f : Str} {p : Addr} {xs : List V} {H : Hp} {R : Addr → Hp → Prop} (hp : SqT K H p xs) (hx : xs.length ≤ 100) (q : ∀ a H', Same H H' → ErrAt H' a C [(f, .ref p)] → R a H') :
    ∀ a, H a = none → spIniL K C f [.ref a, .ref p] (upd H a (exo a C none)) (fun v H3 => v = .non ∧ R a H3) (fun _ _ _ => False) :=
  fun a ha => ⟨a, p, xs, rfl, (Same.new ha).seqT hp, hx, upd_same, fun H' s e => ⟨rfl, q a _ (mk_sm ha s) e⟩⟩
section
variable {P : Program} {w : World} {K : PySem.W.Frag} {mg : Str → Option Value} {base : Heap} {ad : Ad}
theorem ok_BadName_XinitX (T : Txt P K mg ad) : FnOk P w K mg base CX0 1 ad.a_BadName_XinitX ad.d_BadName_XinitX ["self", "name"] (spIni1 ad.c_BadName "name") := by
  refine T.f_BadName_XinitX.ok sc_BadName_XinitX (fun vs H Q E h => ?_) (fun cdv A outer s H vs Q E hr h => ?_)
  · obtain ⟨a, x, rfl, _⟩ := h; rfl
  · obtain ⟨a, x, rfl, hx, ha, q⟩ := h
    refine ⟨_, pss_cons (ps_expr (pe_coinit rfl T.mg_SourceError T.bi_SourceError (pa_cons (cv 0) (pa_cons (pe_joined (.cons pe_str (.cons (pe_fmt (cv 1)) .nil))) pa_nil))))
      (pss_one (ps_ost (cv 0) (cv 1) rfl)), ?_⟩
    tm_at "w"
    refine ⟨_, rfl, by rw [sizeLine_eq]; simp only [str_len_app]; show 0 + 13 ≤ _; omega, ?_⟩
    refine fmt_ok hx fun y1 l1 => ?_
    refine ⟨_, rfl, by rw [sizeLine_eq]; simp only [str_len_app]; show 0 + 13 + y1.length ≤ _; omega, ?_⟩
    refine ⟨a, _, [_], rfl, by show 1 ≤ 1000; decide, T.ox_BadName.oex, ha, ?_⟩
    refine ⟨a, _, rfl, T.ox_BadName.oex, T.na_BadName_name, .inl ⟨ha, fun d hd hn => ?_⟩⟩
    exact q _ (ini_same hd) (.inr ⟨d, upd_same, upd_oth hn upd_same⟩)
theorem ok_BadPath_XinitX (T : Txt P K mg ad) : FnOk P w K mg base CX0 1 ad.a_BadPath_XinitX ad.d_BadPath_XinitX ["self", "path"] (spIni1 ad.c_BadPath "path") := by
  refine T.f_BadPath_XinitX.ok sc_BadPath_XinitX (fun vs H Q E h => ?_) (fun cdv A outer s H vs Q E hr h => ?_)
  · obtain ⟨a, x, rfl, _⟩ := h; rfl
  · obtain ⟨a, x, rfl, hx, ha, q⟩ := h
    refine ⟨_, pss_cons (ps_expr (pe_coinit rfl T.mg_SourceError T.bi_SourceError (pa_cons (cv 0) (pa_cons (pe_joined (.cons pe_str (.cons (pe_fmt (cv 1)) .nil))) pa_nil))))
      (pss_one (ps_ost (cv 0) (cv 1) rfl)), ?_⟩
    tm_at "w"
    refine ⟨_, rfl, by rw [sizeLine_eq]; simp only [str_len_app]; show 0 + 13 ≤ _; omega, ?_⟩
    refine fmt_ok hx fun y1 l1 => ?_
    refine ⟨_, rfl, by rw [sizeLine_eq]; simp only [str_len_app]; show 0 + 13 + y1.length ≤ _; omega, ?_⟩
    refine ⟨a, _, [_], rfl, by show 1 ≤ 1000; decide, T.ox_BadPath.oex, ha, ?_⟩
    refine ⟨a, _, rfl, T.ox_BadPath.oex, T.na_BadPath_path, .inl ⟨ha, fun d hd hn => ?_⟩⟩
    exact q _ (ini_same hd) (.inr ⟨d, upd_same, upd_oth hn upd_same⟩)
theorem ok_NoFile_XinitX (T : Txt P K mg ad) : FnOk P w K mg base CX0 1 ad.a_NoFile_XinitX ad.d_NoFile_XinitX ["self", "path"] (spIni1 ad.c_NoFile "path") := by
  refine T.f_NoFile_XinitX.ok sc_NoFile_XinitX (fun vs H Q E h => ?_) (fun cdv A outer s H vs Q E hr h => ?_)
  · obtain ⟨a, x, rfl, _⟩ := h; rfl
  · obtain ⟨a, x, rfl, hx, ha, q⟩ := h
    refine ⟨_, pss_cons (ps_expr (pe_coinit rfl T.mg_SourceError T.bi_SourceError (pa_cons (cv 0) (pa_cons (pe_joined (.cons pe_str (.cons (pe_fmt (cv 1)) .nil))) pa_nil))))
      (pss_one (ps_ost (cv 0) (cv 1) rfl)), ?_⟩
    tm_at "w"
    refine ⟨_, rfl, by rw [sizeLine_eq]; simp only [str_len_app]; show 0 + 8 ≤ _; omega, ?_⟩
    refine fmt_ok hx fun y1 l1 => ?_
    refine ⟨_, rfl, by rw [sizeLine_eq]; simp only [str_len_app]; show 0 + 8 + y1.length ≤ _; omega, ?_⟩
    refine ⟨a, _, [_], rfl, by show 1 ≤ 1000; decide, T.ox_NoFile.oex, ha, ?_⟩
    refine ⟨a, _, rfl, T.ox_NoFile.oex, T.na_NoFile_path, .inl ⟨ha, fun d hd hn => ?_⟩⟩
    exact q _ (ini_same hd) (.inr ⟨d, upd_same, upd_oth hn upd_same⟩)
theorem ok_BadHunk_XinitX (T : Txt P K mg ad) : FnOk P w K mg base CX0 1 ad.a_BadHunk_XinitX ad.d_BadHunk_XinitX ["self", "index"] (spIni1 ad.c_BadHunk "index") := by
  refine T.f_BadHunk_XinitX.ok sc_BadHunk_XinitX (fun vs H Q E h => ?_) (fun cdv A outer s H vs Q E hr h => ?_)
  · obtain ⟨a, x, rfl, _⟩ := h; rfl
  · obtain ⟨a, x, rfl, hx, ha, q⟩ := h
    refine ⟨_, pss_cons (ps_expr (pe_coinit rfl T.mg_SourceError T.bi_SourceError (pa_cons (cv 0) (pa_cons (pe_joined (.cons pe_str (.cons (pe_fmt (cv 1)) .nil))) pa_nil))))
      (pss_one (ps_ost (cv 0) (cv 1) rfl)), ?_⟩
    tm_at "w"
    refine ⟨_, rfl, by rw [sizeLine_eq]; simp only [str_len_app]; show 0 + 13 ≤ _; omega, ?_⟩
    refine fmt_ok hx fun y1 l1 => ?_
    refine ⟨_, rfl, by rw [sizeLine_eq]; simp only [str_len_app]; show 0 + 13 + y1.length ≤ _; omega, ?_⟩
    refine ⟨a, _, [_], rfl, by show 1 ≤ 1000; decide, T.ox_BadHunk.oex, ha, ?_⟩
    refine ⟨a, _, rfl, T.ox_BadHunk.oex, T.na_BadHunk_index, .inl ⟨ha, fun d hd hn => ?_⟩⟩
    exact q _ (ini_same hd) (.inr ⟨d, upd_same, upd_oth hn upd_same⟩)
theorem ok_BadPatch_XinitX (T : Txt P K mg ad) : FnOk P w K mg base CX0 1 ad.a_BadPatch_XinitX ad.d_BadPatch_XinitX ["self", "path"] (spIni1 ad.c_BadPatch "path") := by
  refine T.f_BadPatch_XinitX.ok sc_BadPatch_XinitX (fun vs H Q E h => ?_) (fun cdv A outer s H vs Q E hr h => ?_)
  · obtain ⟨a, x, rfl, _⟩ := h; rfl
  · obtain ⟨a, x, rfl, hx, ha, q⟩ := h
    refine ⟨_, pss_cons (ps_expr (pe_coinit rfl T.mg_SourceError T.bi_SourceError (pa_cons (cv 0) (pa_cons (pe_joined (.cons pe_str (.cons (pe_fmt (cv 1)) .nil))) pa_nil))))
      (pss_one (ps_ost (cv 0) (cv 1) rfl)), ?_⟩
    tm_at "w"
    refine ⟨_, rfl, by rw [sizeLine_eq]; simp only [str_len_app]; show 0 + 26 ≤ _; omega, ?_⟩
    refine fmt_ok hx fun y1 l1 => ?_
    refine ⟨_, rfl, by rw [sizeLine_eq]; simp only [str_len_app]; show 0 + 26 + y1.length ≤ _; omega, ?_⟩
    refine ⟨a, _, [_], rfl, by show 1 ≤ 1000; decide, T.ox_BadPatch.oex, ha, ?_⟩
    refine ⟨a, _, rfl, T.ox_BadPatch.oex, T.na_BadPatch_path, .inl ⟨ha, fun d hd hn => ?_⟩⟩
    exact q _ (ini_same hd) (.inr ⟨d, upd_same, upd_oth hn upd_same⟩)
theorem ok_Refused_XinitX (T : Txt P K mg ad) : FnOk P w K mg base CX0 1 ad.a_Refused_XinitX ad.d_Refused_XinitX ["self", "path", "index"] (spIni2 ad.c_Refused "path" "index") := by
  refine T.f_Refused_XinitX.ok sc_Refused_XinitX (fun vs H Q E h => ?_) (fun cdv A outer s H vs Q E hr h => ?_)
  · obtain ⟨a, x, y, rfl, _⟩ := h; rfl
  · obtain ⟨a, x, y, rfl, hx, hy, ha, q⟩ := h
    refine ⟨_, pss_cons (ps_expr (pe_coinit rfl T.mg_SourceError T.bi_SourceError (pa_cons (cv 0) (pa_cons (pe_joined (.cons (pe_fmt (cv 1)) (.cons pe_str (.cons (pe_fmt (cv 2)) .nil)))) pa_nil))))
      (pss_cons (ps_ost (cv 0) (cv 1) rfl)
      (pss_one (ps_ost (cv 0) (cv 2) rfl))), ?_⟩
    tm_at "w"
    refine fmt_ok hx fun y1 l1 => ?_
    refine ⟨_, rfl, by rw [sizeLine_eq]; simp only [str_len_app]; show 0 + y1.length ≤ _; omega, ?_⟩
    refine ⟨_, rfl, by rw [sizeLine_eq]; simp only [str_len_app]; show 0 + y1.length + 14 ≤ _; omega, ?_⟩
    refine fmt_ok hy fun y2 l2 => ?_
    refine ⟨_, rfl, by rw [sizeLine_eq]; simp only [str_len_app]; show 0 + y1.length + 14 + y2.length ≤ _; omega, ?_⟩
    refine ⟨a, _, [_], rfl, by show 1 ≤ 1000; decide, T.ox_Refused.oex, ha, ?_⟩
    refine ⟨a, _, rfl, T.ox_Refused.oex, T.na_Refused_path, .inl ⟨ha, fun d hd hn => ?_⟩⟩
    refine ⟨a, _, rfl, T.ox_Refused.oex, T.na_Refused_index, .inr ⟨d, _, upd_same, upd_oth hn upd_same, by show 1 ≤ 900; decide, ?_⟩⟩
    exact q _ (ini_same2 hd) (.inr ⟨d, upd_oth hn.symm upd_same, upd_same⟩)
theorem ok_Entangled_XinitX (T : Txt P K mg ad) : FnOk P w K mg base CX0 1 ad.a_Entangled_XinitX ad.d_Entangled_XinitX ["self", "path"] (spIni1 ad.c_Entangled "path") := by
  refine T.f_Entangled_XinitX.ok sc_Entangled_XinitX (fun vs H Q E h => ?_) (fun cdv A outer s H vs Q E hr h => ?_)
  · obtain ⟨a, x, rfl, _⟩ := h; rfl
  · obtain ⟨a, x, rfl, hx, ha, q⟩ := h
    refine ⟨_, pss_cons (ps_expr (pe_coinit rfl T.mg_SourceError T.bi_SourceError (pa_cons (cv 0) (pa_cons (pe_joined (.cons pe_str (.cons (pe_fmt (cv 1)) .nil))) pa_nil))))
      (pss_one (ps_ost (cv 0) (cv 1) rfl)), ?_⟩
    tm_at "w"
    refine ⟨_, rfl, by rw [sizeLine_eq]; simp only [str_len_app]; show 0 + 13 ≤ _; omega, ?_⟩
    refine fmt_ok hx fun y1 l1 => ?_
    refine ⟨_, rfl, by rw [sizeLine_eq]; simp only [str_len_app]; show 0 + 13 + y1.length ≤ _; omega, ?_⟩
    refine ⟨a, _, [_], rfl, by show 1 ≤ 1000; decide, T.ox_Entangled.oex, ha, ?_⟩
    refine ⟨a, _, rfl, T.ox_Entangled.oex, T.na_Entangled_path, .inl ⟨ha, fun d hd hn => ?_⟩⟩
    exact q _ (ini_same hd) (.inr ⟨d, upd_same, upd_oth hn upd_same⟩)
theorem ok_BadSeries_XinitX (T : Txt P K mg ad) : FnOk P w K mg base CX0 1 ad.a_BadSeries_XinitX ad.d_BadSeries_XinitX ["self", "index"] (spIni1 ad.c_BadSeries "index") := by
  refine T.f_BadSeries_XinitX.ok sc_BadSeries_XinitX (fun vs H Q E h => ?_) (fun cdv A outer s H vs Q E hr h => ?_)
  · obtain ⟨a, x, rfl, _⟩ := h; rfl
  · obtain ⟨a, x, rfl, hx, ha, q⟩ := h
    refine ⟨_, pss_cons (ps_expr (pe_coinit rfl T.mg_SourceError T.bi_SourceError (pa_cons (cv 0) (pa_cons (pe_joined (.cons pe_str (.cons (pe_fmt (cv 1)) .nil))) pa_nil))))
      (pss_one (ps_ost (cv 0) (cv 1) rfl)), ?_⟩
    tm_at "w"
    refine ⟨_, rfl, by rw [sizeLine_eq]; simp only [str_len_app]; show 0 + 14 ≤ _; omega, ?_⟩
    refine fmt_ok hx fun y1 l1 => ?_
    refine ⟨_, rfl, by rw [sizeLine_eq]; simp only [str_len_app]; show 0 + 14 + y1.length ≤ _; omega, ?_⟩
    refine ⟨a, _, [_], rfl, by show 1 ≤ 1000; decide, T.ox_BadSeries.oex, ha, ?_⟩
    refine ⟨a, _, rfl, T.ox_BadSeries.oex, T.na_BadSeries_index, .inl ⟨ha, fun d hd hn => ?_⟩⟩
    exact q _ (ini_same hd) (.inr ⟨d, upd_same, upd_oth hn upd_same⟩)
theorem ok_Stopped_XinitX (T : Txt P K mg ad) : FnOk P w K mg base CX0 1 ad.a_Stopped_XinitX ad.d_Stopped_XinitX ["self", "index"] (spIni1 ad.c_Stopped "index") := by
  refine T.f_Stopped_XinitX.ok sc_Stopped_XinitX (fun vs H Q E h => ?_) (fun cdv A outer s H vs Q E hr h => ?_)
  · obtain ⟨a, x, rfl, _⟩ := h; rfl
  · obtain ⟨a, x, rfl, hx, ha, q⟩ := h
    refine ⟨_, pss_cons (ps_expr (pe_coinit rfl T.mg_SourceError T.bi_SourceError (pa_cons (cv 0) (pa_cons (pe_joined (.cons pe_str (.cons (pe_fmt (cv 1)) .nil))) pa_nil))))
      (pss_one (ps_ost (cv 0) (cv 1) rfl)), ?_⟩
    tm_at "w"
    refine ⟨_, rfl, by rw [sizeLine_eq]; simp only [str_len_app]; show 0 + 17 ≤ _; omega, ?_⟩
    refine fmt_ok hx fun y1 l1 => ?_
    refine ⟨_, rfl, by rw [sizeLine_eq]; simp only [str_len_app]; show 0 + 17 + y1.length ≤ _; omega, ?_⟩
    refine ⟨a, _, [_], rfl, by show 1 ≤ 1000; decide, T.ox_Stopped.oex, ha, ?_⟩
    refine ⟨a, _, rfl, T.ox_Stopped.oex, T.na_Stopped_index, .inl ⟨ha, fun d hd hn => ?_⟩⟩
    exact q _ (ini_same hd) (.inr ⟨d, upd_same, upd_oth hn upd_same⟩)
theorem ok_BadRecipe_XinitX (T : Txt P K mg ad) : FnOk P w K mg base CX0 1 ad.a_BadRecipe_XinitX ad.d_BadRecipe_XinitX ["self", "index"] (spIni1 ad.c_BadRecipe "index") := by
  refine T.f_BadRecipe_XinitX.ok sc_BadRecipe_XinitX (fun vs H Q E h => ?_) (fun cdv A outer s H vs Q E hr h => ?_)
  · obtain ⟨a, x, rfl, _⟩ := h; rfl
  · obtain ⟨a, x, rfl, hx, ha, q⟩ := h
    refine ⟨_, pss_cons (ps_expr (pe_coinit rfl T.mg_SourceError T.bi_SourceError (pa_cons (cv 0) (pa_cons (pe_joined (.cons pe_str (.cons (pe_fmt (cv 1)) .nil))) pa_nil))))
      (pss_one (ps_ost (cv 0) (cv 1) rfl)), ?_⟩
    tm_at "w"
    refine ⟨_, rfl, by rw [sizeLine_eq]; simp only [str_len_app]; show 0 + 13 ≤ _; omega, ?_⟩
    refine fmt_ok hx fun y1 l1 => ?_
    refine ⟨_, rfl, by rw [sizeLine_eq]; simp only [str_len_app]; show 0 + 13 + y1.length ≤ _; omega, ?_⟩
    refine ⟨a, _, [_], rfl, by show 1 ≤ 1000; decide, T.ox_BadRecipe.oex, ha, ?_⟩
    refine ⟨a, _, rfl, T.ox_BadRecipe.oex, T.na_BadRecipe_index, .inl ⟨ha, fun d hd hn => ?_⟩⟩
    exact q _ (ini_same hd) (.inr ⟨d, upd_same, upd_oth hn upd_same⟩)
theorem ok_Outside_XinitX (T : Txt P K mg ad) : FnOk P w K mg base CX0 1 ad.a_Outside_XinitX ad.d_Outside_XinitX ["self", "output", "read"] (spIni2 ad.c_Outside "output" "read") := by
  refine T.f_Outside_XinitX.ok sc_Outside_XinitX (fun vs H Q E h => ?_) (fun cdv A outer s H vs Q E hr h => ?_)
  · obtain ⟨a, x, y, rfl, _⟩ := h; rfl
  · obtain ⟨a, x, y, rfl, hx, hy, ha, q⟩ := h
    refine ⟨_, pss_cons (ps_expr (pe_coinit rfl T.mg_SourceError T.bi_SourceError (pa_cons (cv 0) (pa_cons (pe_joined (.cons (pe_fmt (cv 1)) (.cons pe_str (.cons (pe_fmt (cv 2)) .nil)))) pa_nil))))
      (pss_cons (ps_ost (cv 0) (cv 1) rfl)
      (pss_one (ps_ost (cv 0) (cv 2) rfl))), ?_⟩
    tm_at "w"
    refine fmt_ok hx fun y1 l1 => ?_
    refine ⟨_, rfl, by rw [sizeLine_eq]; simp only [str_len_app]; show 0 + y1.length ≤ _; omega, ?_⟩
    refine ⟨_, rfl, by rw [sizeLine_eq]; simp only [str_len_app]; show 0 + y1.length + 7 ≤ _; omega, ?_⟩
    refine fmt_ok hy fun y2 l2 => ?_
    refine ⟨_, rfl, by rw [sizeLine_eq]; simp only [str_len_app]; show 0 + y1.length + 7 + y2.length ≤ _; omega, ?_⟩
    refine ⟨a, _, [_], rfl, by show 1 ≤ 1000; decide, T.ox_Outside.oex, ha, ?_⟩
    refine ⟨a, _, rfl, T.ox_Outside.oex, T.na_Outside_output, .inl ⟨ha, fun d hd hn => ?_⟩⟩
    refine ⟨a, _, rfl, T.ox_Outside.oex, T.na_Outside_read, .inr ⟨d, _, upd_same, upd_oth hn upd_same, by show 1 ≤ 900; decide, ?_⟩⟩
    exact q _ (ini_same2 hd) (.inr ⟨d, upd_oth hn.symm upd_same, upd_same⟩)
theorem ok_Absent_XinitX (T : Txt P K mg ad) : FnOk P w K mg base CX0 1 ad.a_Absent_XinitX ad.d_Absent_XinitX ["self", "output", "read"] (spIni2 ad.c_Absent "output" "read") := by
  refine T.f_Absent_XinitX.ok sc_Absent_XinitX (fun vs H Q E h => ?_) (fun cdv A outer s H vs Q E hr h => ?_)
  · obtain ⟨a, x, y, rfl, _⟩ := h; rfl
  · obtain ⟨a, x, y, rfl, hx, hy, ha, q⟩ := h
    refine ⟨_, pss_cons (ps_expr (pe_coinit rfl T.mg_SourceError T.bi_SourceError (pa_cons (cv 0) (pa_cons (pe_joined (.cons (pe_fmt (cv 1)) (.cons pe_str (.cons (pe_fmt (cv 2)) .nil)))) pa_nil))))
      (pss_cons (ps_ost (cv 0) (cv 1) rfl)
      (pss_one (ps_ost (cv 0) (cv 2) rfl))), ?_⟩
    tm_at "w"
    refine fmt_ok hx fun y1 l1 => ?_
    refine ⟨_, rfl, by rw [sizeLine_eq]; simp only [str_len_app]; show 0 + y1.length ≤ _; omega, ?_⟩
    refine ⟨_, rfl, by rw [sizeLine_eq]; simp only [str_len_app]; show 0 + y1.length + 8 ≤ _; omega, ?_⟩
    refine fmt_ok hy fun y2 l2 => ?_
    refine ⟨_, rfl, by rw [sizeLine_eq]; simp only [str_len_app]; show 0 + y1.length + 8 + y2.length ≤ _; omega, ?_⟩
    refine ⟨a, _, [_], rfl, by show 1 ≤ 1000; decide, T.ox_Absent.oex, ha, ?_⟩
    refine ⟨a, _, rfl, T.ox_Absent.oex, T.na_Absent_output, .inl ⟨ha, fun d hd hn => ?_⟩⟩
    refine ⟨a, _, rfl, T.ox_Absent.oex, T.na_Absent_read, .inr ⟨d, _, upd_same, upd_oth hn upd_same, by show 1 ≤ 900; decide, ?_⟩⟩
    exact q _ (ini_same2 hd) (.inr ⟨d, upd_oth hn.symm upd_same, upd_same⟩)
theorem ok_BadArchive_XinitX (T : Txt P K mg ad) : FnOk P w K mg base CX0 1 ad.a_BadArchive_XinitX ad.d_BadArchive_XinitX ["self", "name"] (spIni1 ad.c_BadArchive "name") := by
  refine T.f_BadArchive_XinitX.ok sc_BadArchive_XinitX (fun vs H Q E h => ?_) (fun cdv A outer s H vs Q E hr h => ?_)
  · obtain ⟨a, x, rfl, _⟩ := h; rfl
  · obtain ⟨a, x, rfl, hx, ha, q⟩ := h
    refine ⟨_, pss_cons (ps_expr (pe_coinit rfl T.mg_SourceError T.bi_SourceError (pa_cons (cv 0) (pa_cons (pe_joined (.cons pe_str (.cons (pe_fmt (cv 1)) .nil))) pa_nil))))
      (pss_one (ps_ost (cv 0) (cv 1) rfl)), ?_⟩
    tm_at "w"
    refine ⟨_, rfl, by rw [sizeLine_eq]; simp only [str_len_app]; show 0 + 16 ≤ _; omega, ?_⟩
    refine fmt_ok hx fun y1 l1 => ?_
    refine ⟨_, rfl, by rw [sizeLine_eq]; simp only [str_len_app]; show 0 + 16 + y1.length ≤ _; omega, ?_⟩
    refine ⟨a, _, [_], rfl, by show 1 ≤ 1000; decide, T.ox_BadArchive.oex, ha, ?_⟩
    refine ⟨a, _, rfl, T.ox_BadArchive.oex, T.na_BadArchive_name, .inl ⟨ha, fun d hd hn => ?_⟩⟩
    exact q _ (ini_same hd) (.inr ⟨d, upd_same, upd_oth hn upd_same⟩)
theorem ok_NoPlan_XinitX (T : Txt P K mg ad) : FnOk P w K mg base CX0 1 ad.a_NoPlan_XinitX ad.d_NoPlan_XinitX ["self", "ring"] (spIniL K ad.c_NoPlan "ring") := by
  refine T.f_NoPlan_XinitX.ok sc_NoPlan_XinitX (fun vs H Q E h => ?_) (fun cdv A outer s H vs Q E hr h => ?_)
  · obtain ⟨a, p, xs, rfl, _⟩ := h; rfl
  · obtain ⟨a, p, xs, rfl, hp, hxs, ha, q⟩ := h
    refine ⟨_, pss_cons (ps_expr (pe_coinit rfl T.mg_SourceError T.bi_SourceError (pa_cons (cv 0) (pa_cons (pe_joined (.cons pe_str (.cons (pe_fmt (pe_callB (cc_len (K := K)) (by rfl) T.n_len (by decide +kernel) (pa_cons (cv 1) pa_nil))) (.cons pe_str .nil)))) pa_nil))))
      (pss_one (ps_ost (cv 0) (cv 1) rfl)), ?_⟩
    tm_at "w"
    refine ⟨_, rfl, by rw [sizeLine_eq]; simp only [str_len_app]; show 0 + 10 ≤ _; omega, ?_⟩
    refine ⟨_, .inr hp, ?_⟩
    refine fmt_ok (x := .int (xs.length : Int)) (.inl ⟨by omega, by omega⟩) fun y1 l1 => ?_
    refine ⟨_, rfl, by rw [sizeLine_eq]; simp only [str_len_app]; show 0 + 10 + y1.length ≤ _; omega, ?_⟩
    refine ⟨_, rfl, by rw [sizeLine_eq]; simp only [str_len_app]; show 0 + 10 + y1.length + 9 ≤ _; omega, ?_⟩
    refine ⟨a, _, [_], rfl, by show 1 ≤ 1000; decide, T.ox_NoPlan.oex, ha, ?_⟩
    refine ⟨a, _, rfl, T.ox_NoPlan.oex, T.na_NoPlan_ring, .inl ⟨ha, fun d hd hn => ?_⟩⟩
    exact q _ (ini_same hd) (.inr ⟨d, upd_same, upd_oth hn upd_same⟩)
theorem ok_NoOrder_XinitX (T : Txt P K mg ad) : FnOk P w K mg base CX0 1 ad.a_NoOrder_XinitX ad.d_NoOrder_XinitX ["self"] (spIni0 ad.c_NoOrder) := by
  refine T.f_NoOrder_XinitX.ok sc_NoOrder_XinitX (fun vs H Q E h => ?_) (fun cdv A outer s H vs Q E hr h => ?_)
  · obtain ⟨a, rfl, _⟩ := h; rfl
  · obtain ⟨a, rfl, ha, q⟩ := h
    refine ⟨_, pss_one (ps_expr (pe_coinit rfl T.mg_SourceError T.bi_SourceError (pa_cons (cv 0) (pa_cons pe_str pa_nil)))), ?_⟩
    tm_at "w"
    refine ⟨a, _, [_], rfl, by show 1 ≤ 1000; decide, T.ox_NoOrder.oex, ha, ?_⟩
    exact q
theorem ok_NoPatch_XinitX (T : Txt P K mg ad) : FnOk P w K mg base CX0 1 ad.a_NoPatch_XinitX ad.d_NoPatch_XinitX ["self", "name"] (spIni1 ad.c_NoPatch "name") := by
  refine T.f_NoPatch_XinitX.ok sc_NoPatch_XinitX (fun vs H Q E h => ?_) (fun cdv A outer s H vs Q E hr h => ?_)
  · obtain ⟨a, x, rfl, _⟩ := h; rfl
  · obtain ⟨a, x, rfl, hx, ha, q⟩ := h
    refine ⟨_, pss_cons (ps_expr (pe_coinit rfl T.mg_SourceError T.bi_SourceError (pa_cons (cv 0) (pa_cons (pe_joined (.cons pe_str (.cons (pe_fmt (cv 1)) .nil))) pa_nil))))
      (pss_one (ps_ost (cv 0) (cv 1) rfl)), ?_⟩
    tm_at "w"
    refine ⟨_, rfl, by rw [sizeLine_eq]; simp only [str_len_app]; show 0 + 9 ≤ _; omega, ?_⟩
    refine fmt_ok hx fun y1 l1 => ?_
    refine ⟨_, rfl, by rw [sizeLine_eq]; simp only [str_len_app]; show 0 + 9 + y1.length ≤ _; omega, ?_⟩
    refine ⟨a, _, [_], rfl, by show 1 ≤ 1000; decide, T.ox_NoPatch.oex, ha, ?_⟩
    refine ⟨a, _, rfl, T.ox_NoPatch.oex, T.na_NoPatch_name, .inl ⟨ha, fun d hd hn => ?_⟩⟩
    exact q _ (ini_same hd) (.inr ⟨d, upd_same, upd_oth hn upd_same⟩)
theorem ok_Clashed_XinitX (T : Txt P K mg ad) : FnOk P w K mg base CX0 1 ad.a_Clashed_XinitX ad.d_Clashed_XinitX ["self", "ours", "theirs"] (spIni2 ad.c_Clashed "ours" "theirs") := by
  refine T.f_Clashed_XinitX.ok sc_Clashed_XinitX (fun vs H Q E h => ?_) (fun cdv A outer s H vs Q E hr h => ?_)
  · obtain ⟨a, x, y, rfl, _⟩ := h; rfl
  · obtain ⟨a, x, y, rfl, hx, hy, ha, q⟩ := h
    refine ⟨_, pss_cons (ps_expr (pe_coinit rfl T.mg_SourceError T.bi_SourceError (pa_cons (cv 0) (pa_cons (pe_joined (.cons pe_str (.cons (pe_fmt (cv 1)) (.cons pe_str (.cons (pe_fmt (cv 2)) (.cons pe_str .nil)))))) pa_nil))))
      (pss_cons (ps_ost (cv 0) (cv 1) rfl)
      (pss_one (ps_ost (cv 0) (cv 2) rfl))), ?_⟩
    tm_at "w"
    refine ⟨_, rfl, by rw [sizeLine_eq]; simp only [str_len_app]; show 0 + 8 ≤ _; omega, ?_⟩
    refine fmt_ok hx fun y1 l1 => ?_
    refine ⟨_, rfl, by rw [sizeLine_eq]; simp only [str_len_app]; show 0 + 8 + y1.length ≤ _; omega, ?_⟩
    refine ⟨_, rfl, by rw [sizeLine_eq]; simp only [str_len_app]; show 0 + 8 + y1.length + 5 ≤ _; omega, ?_⟩
    refine fmt_ok hy fun y2 l2 => ?_
    refine ⟨_, rfl, by rw [sizeLine_eq]; simp only [str_len_app]; show 0 + 8 + y1.length + 5 + y2.length ≤ _; omega, ?_⟩
    refine ⟨_, rfl, by rw [sizeLine_eq]; simp only [str_len_app]; show 0 + 8 + y1.length + 5 + y2.length + 5 ≤ _; omega, ?_⟩
    refine ⟨a, _, [_], rfl, by show 1 ≤ 1000; decide, T.ox_Clashed.oex, ha, ?_⟩
    refine ⟨a, _, rfl, T.ox_Clashed.oex, T.na_Clashed_ours, .inl ⟨ha, fun d hd hn => ?_⟩⟩
    refine ⟨a, _, rfl, T.ox_Clashed.oex, T.na_Clashed_theirs, .inr ⟨d, _, upd_same, upd_oth hn upd_same, by show 1 ≤ 900; decide, ?_⟩⟩
    exact q _ (ini_same2 hd) (.inr ⟨d, upd_oth hn.symm upd_same, upd_same⟩)
theorem ok_BadChoice_XinitX (T : Txt P K mg ad) : FnOk P w K mg base CX0 1 ad.a_BadChoice_XinitX ad.d_BadChoice_XinitX ["self", "name"] (spIni1 ad.c_BadChoice "name") := by
  refine T.f_BadChoice_XinitX.ok sc_BadChoice_XinitX (fun vs H Q E h => ?_) (fun cdv A outer s H vs Q E hr h => ?_)
  · obtain ⟨a, x, rfl, _⟩ := h; rfl
  · obtain ⟨a, x, rfl, hx, ha, q⟩ := h
    refine ⟨_, pss_cons (ps_expr (pe_coinit rfl T.mg_SourceError T.bi_SourceError (pa_cons (cv 0) (pa_cons (pe_joined (.cons pe_str (.cons (pe_fmt (cv 1)) .nil))) pa_nil))))
      (pss_one (ps_ost (cv 0) (cv 1) rfl)), ?_⟩
    tm_at "w"
    refine ⟨_, rfl, by rw [sizeLine_eq]; simp only [str_len_app]; show 0 + 15 ≤ _; omega, ?_⟩
    refine fmt_ok hx fun y1 l1 => ?_
    refine ⟨_, rfl, by rw [sizeLine_eq]; simp only [str_len_app]; show 0 + 15 + y1.length ≤ _; omega, ?_⟩
    refine ⟨a, _, [_], rfl, by show 1 ≤ 1000; decide, T.ox_BadChoice.oex, ha, ?_⟩
    refine ⟨a, _, rfl, T.ox_BadChoice.oex, T.na_BadChoice_name, .inl ⟨ha, fun d hd hn => ?_⟩⟩
    exact q _ (ini_same hd) (.inr ⟨d, upd_same, upd_oth hn upd_same⟩)
theorem ok_BadJob_XinitX (T : Txt P K mg ad) : FnOk P w K mg base CX0 1 ad.a_BadJob_XinitX ad.d_BadJob_XinitX ["self", "index"] (spIni1 ad.c_BadJob "index") := by
  refine T.f_BadJob_XinitX.ok sc_BadJob_XinitX (fun vs H Q E h => ?_) (fun cdv A outer s H vs Q E hr h => ?_)
  · obtain ⟨a, x, rfl, _⟩ := h; rfl
  · obtain ⟨a, x, rfl, hx, ha, q⟩ := h
    refine ⟨_, pss_cons (ps_expr (pe_coinit rfl T.mg_SourceError T.bi_SourceError (pa_cons (cv 0) (pa_cons (pe_joined (.cons pe_str (.cons (pe_fmt (cv 1)) .nil))) pa_nil))))
      (pss_one (ps_ost (cv 0) (cv 1) rfl)), ?_⟩
    tm_at "w"
    refine ⟨_, rfl, by rw [sizeLine_eq]; simp only [str_len_app]; show 0 + 12 ≤ _; omega, ?_⟩
    refine fmt_ok hx fun y1 l1 => ?_
    refine ⟨_, rfl, by rw [sizeLine_eq]; simp only [str_len_app]; show 0 + 12 + y1.length ≤ _; omega, ?_⟩
    refine ⟨a, _, [_], rfl, by show 1 ≤ 1000; decide, T.ox_BadJob.oex, ha, ?_⟩
    refine ⟨a, _, rfl, T.ox_BadJob.oex, T.na_BadJob_index, .inl ⟨ha, fun d hd hn => ?_⟩⟩
    exact q _ (ini_same hd) (.inr ⟨d, upd_same, upd_oth hn upd_same⟩)
theorem ok_BadPlan_XinitX (T : Txt P K mg ad) : FnOk P w K mg base CX0 1 ad.a_BadPlan_XinitX ad.d_BadPlan_XinitX ["self"] (spIni0 ad.c_BadPlan) := by
  refine T.f_BadPlan_XinitX.ok sc_BadPlan_XinitX (fun vs H Q E h => ?_) (fun cdv A outer s H vs Q E hr h => ?_)
  · obtain ⟨a, rfl, _⟩ := h; rfl
  · obtain ⟨a, rfl, ha, q⟩ := h
    refine ⟨_, pss_one (ps_expr (pe_coinit rfl T.mg_SourceError T.bi_SourceError (pa_cons (cv 0) (pa_cons pe_str pa_nil)))), ?_⟩
    tm_at "w"
    refine ⟨a, _, [_], rfl, by show 1 ≤ 1000; decide, T.ox_BadPlan.oex, ha, ?_⟩
    exact q
theorem ok_NoTurn_XinitX (T : Txt P K mg ad) : FnOk P w K mg base CX0 1 ad.a_NoTurn_XinitX ad.d_NoTurn_XinitX ["self", "count"] (spIni1 ad.c_NoTurn "count") := by
  refine T.f_NoTurn_XinitX.ok sc_NoTurn_XinitX (fun vs H Q E h => ?_) (fun cdv A outer s H vs Q E hr h => ?_)
  · obtain ⟨a, x, rfl, _⟩ := h; rfl
  · obtain ⟨a, x, rfl, hx, ha, q⟩ := h
    refine ⟨_, pss_cons (ps_expr (pe_coinit rfl T.mg_SourceError T.bi_SourceError (pa_cons (cv 0) (pa_cons (pe_joined (.cons pe_str (.cons (pe_fmt (cv 1)) (.cons pe_str .nil)))) pa_nil))))
      (pss_one (ps_ost (cv 0) (cv 1) rfl)), ?_⟩
    tm_at "w"
    refine ⟨_, rfl, by rw [sizeLine_eq]; simp only [str_len_app]; show 0 + 12 ≤ _; omega, ?_⟩
    refine fmt_ok hx fun y1 l1 => ?_
    refine ⟨_, rfl, by rw [sizeLine_eq]; simp only [str_len_app]; show 0 + 12 + y1.length ≤ _; omega, ?_⟩
    refine ⟨_, rfl, by rw [sizeLine_eq]; simp only [str_len_app]; show 0 + 12 + y1.length + 8 ≤ _; omega, ?_⟩
    refine ⟨a, _, [_], rfl, by show 1 ≤ 1000; decide, T.ox_NoTurn.oex, ha, ?_⟩
    refine ⟨a, _, rfl, T.ox_NoTurn.oex, T.na_NoTurn_count, .inl ⟨ha, fun d hd hn => ?_⟩⟩
    exact q _ (ini_same hd) (.inr ⟨d, upd_same, upd_oth hn upd_same⟩)
theorem ok_NotClosed_XinitX (T : Txt P K mg ad) : FnOk P w K mg base CX0 1 ad.a_NotClosed_XinitX ad.d_NotClosed_XinitX ["self", "index"] (spIni1 ad.c_NotClosed "index") := by
  refine T.f_NotClosed_XinitX.ok sc_NotClosed_XinitX (fun vs H Q E h => ?_) (fun cdv A outer s H vs Q E hr h => ?_)
  · obtain ⟨a, x, rfl, _⟩ := h; rfl
  · obtain ⟨a, x, rfl, hx, ha, q⟩ := h
    refine ⟨_, pss_cons (ps_expr (pe_coinit rfl T.mg_SourceError T.bi_SourceError (pa_cons (cv 0) (pa_cons (pe_joined (.cons pe_str (.cons (pe_fmt (cv 1)) .nil))) pa_nil))))
      (pss_one (ps_ost (cv 0) (cv 1) rfl)), ?_⟩
    tm_at "w"
    refine ⟨_, rfl, by rw [sizeLine_eq]; simp only [str_len_app]; show 0 + 20 ≤ _; omega, ?_⟩
    refine fmt_ok hx fun y1 l1 => ?_
    refine ⟨_, rfl, by rw [sizeLine_eq]; simp only [str_len_app]; show 0 + 20 + y1.length ≤ _; omega, ?_⟩
    refine ⟨a, _, [_], rfl, by show 1 ≤ 1000; decide, T.ox_NotClosed.oex, ha, ?_⟩
    refine ⟨a, _, rfl, T.ox_NotClosed.oex, T.na_NotClosed_index, .inl ⟨ha, fun d hd hn => ?_⟩⟩
    exact q _ (ini_same hd) (.inr ⟨d, upd_same, upd_oth hn upd_same⟩)
theorem ok_BadRelease_XinitX (T : Txt P K mg ad) : FnOk P w K mg base CX0 1 ad.a_BadRelease_XinitX ad.d_BadRelease_XinitX ["self", "name", "number"] (spIni2 ad.c_BadRelease "name" "number") := by
  refine T.f_BadRelease_XinitX.ok sc_BadRelease_XinitX (fun vs H Q E h => ?_) (fun cdv A outer s H vs Q E hr h => ?_)
  · obtain ⟨a, x, y, rfl, _⟩ := h; rfl
  · obtain ⟨a, x, y, rfl, hx, hy, ha, q⟩ := h
    refine ⟨_, pss_cons (ps_expr (pe_coinit rfl T.mg_SourceError T.bi_SourceError (pa_cons (cv 0) (pa_cons (pe_joined (.cons pe_str (.cons (pe_fmt (cv 1)) (.cons pe_str (.cons (pe_fmt (cv 2)) (.cons pe_str .nil)))))) pa_nil))))
      (pss_cons (ps_ost (cv 0) (cv 1) rfl)
      (pss_one (ps_ost (cv 0) (cv 2) rfl))), ?_⟩
    tm_at "w"
    refine ⟨_, rfl, by rw [sizeLine_eq]; simp only [str_len_app]; show 0 + 8 ≤ _; omega, ?_⟩
    refine fmt_ok hx fun y1 l1 => ?_
    refine ⟨_, rfl, by rw [sizeLine_eq]; simp only [str_len_app]; show 0 + 8 + y1.length ≤ _; omega, ?_⟩
    refine ⟨_, rfl, by rw [sizeLine_eq]; simp only [str_len_app]; show 0 + 8 + y1.length + 1 ≤ _; omega, ?_⟩
    refine fmt_ok hy fun y2 l2 => ?_
    refine ⟨_, rfl, by rw [sizeLine_eq]; simp only [str_len_app]; show 0 + 8 + y1.length + 1 + y2.length ≤ _; omega, ?_⟩
    refine ⟨_, rfl, by rw [sizeLine_eq]; simp only [str_len_app]; show 0 + 8 + y1.length + 1 + y2.length + 20 ≤ _; omega, ?_⟩
    refine ⟨a, _, [_], rfl, by show 1 ≤ 1000; decide, T.ox_BadRelease.oex, ha, ?_⟩
    refine ⟨a, _, rfl, T.ox_BadRelease.oex, T.na_BadRelease_name, .inl ⟨ha, fun d hd hn => ?_⟩⟩
    refine ⟨a, _, rfl, T.ox_BadRelease.oex, T.na_BadRelease_number, .inr ⟨d, _, upd_same, upd_oth hn upd_same, by show 1 ≤ 900; decide, ?_⟩⟩
    exact q _ (ini_same2 hd) (.inr ⟨d, upd_oth hn.symm upd_same, upd_same⟩)
theorem ok_NoRelease_XinitX (T : Txt P K mg ad) : FnOk P w K mg base CX0 1 ad.a_NoRelease_XinitX ad.d_NoRelease_XinitX ["self", "name", "number"] (spIni2 ad.c_NoRelease "name" "number") := by
  refine T.f_NoRelease_XinitX.ok sc_NoRelease_XinitX (fun vs H Q E h => ?_) (fun cdv A outer s H vs Q E hr h => ?_)
  · obtain ⟨a, x, y, rfl, _⟩ := h; rfl
  · obtain ⟨a, x, y, rfl, hx, hy, ha, q⟩ := h
    refine ⟨_, pss_cons (ps_expr (pe_coinit rfl T.mg_SourceError T.bi_SourceError (pa_cons (cv 0) (pa_cons (pe_joined (.cons pe_str (.cons (pe_fmt (cv 1)) (.cons pe_str (.cons (pe_fmt (cv 2)) .nil))))) pa_nil))))
      (pss_cons (ps_ost (cv 0) (cv 1) rfl)
      (pss_one (ps_ost (cv 0) (cv 2) rfl))), ?_⟩
    tm_at "w"
    refine ⟨_, rfl, by rw [sizeLine_eq]; simp only [str_len_app]; show 0 + 11 ≤ _; omega, ?_⟩
    refine fmt_ok hx fun y1 l1 => ?_
    refine ⟨_, rfl, by rw [sizeLine_eq]; simp only [str_len_app]; show 0 + 11 + y1.length ≤ _; omega, ?_⟩
    refine ⟨_, rfl, by rw [sizeLine_eq]; simp only [str_len_app]; show 0 + 11 + y1.length + 1 ≤ _; omega, ?_⟩
    refine fmt_ok hy fun y2 l2 => ?_
    refine ⟨_, rfl, by rw [sizeLine_eq]; simp only [str_len_app]; show 0 + 11 + y1.length + 1 + y2.length ≤ _; omega, ?_⟩
    refine ⟨a, _, [_], rfl, by show 1 ≤ 1000; decide, T.ox_NoRelease.oex, ha, ?_⟩
    refine ⟨a, _, rfl, T.ox_NoRelease.oex, T.na_NoRelease_name, .inl ⟨ha, fun d hd hn => ?_⟩⟩
    refine ⟨a, _, rfl, T.ox_NoRelease.oex, T.na_NoRelease_number, .inr ⟨d, _, upd_same, upd_oth hn upd_same, by show 1 ≤ 900; decide, ?_⟩⟩
    exact q _ (ini_same2 hd) (.inr ⟨d, upd_oth hn.symm upd_same, upd_same⟩)
theorem ok_NoChoice_XinitX (T : Txt P K mg ad) : FnOk P w K mg base CX0 1 ad.a_NoChoice_XinitX ad.d_NoChoice_XinitX ["self"] (spIni0 ad.c_NoChoice) := by
  refine T.f_NoChoice_XinitX.ok sc_NoChoice_XinitX (fun vs H Q E h => ?_) (fun cdv A outer s H vs Q E hr h => ?_)
  · obtain ⟨a, rfl, _⟩ := h; rfl
  · obtain ⟨a, rfl, ha, q⟩ := h
    refine ⟨_, pss_one (ps_expr (pe_coinit rfl T.mg_SourceError T.bi_SourceError (pa_cons (cv 0) (pa_cons pe_str pa_nil)))), ?_⟩
    tm_at "w"
    refine ⟨a, _, [_], rfl, by show 1 ≤ 1000; decide, T.ox_NoChoice.oex, ha, ?_⟩
    exact q
theorem ok_BadSystem_XinitX (T : Txt P K mg ad) : FnOk P w K mg base CX0 1 ad.a_BadSystem_XinitX ad.d_BadSystem_XinitX ["self", "name"] (spIni1 ad.c_BadSystem "name") := by
  refine T.f_BadSystem_XinitX.ok sc_BadSystem_XinitX (fun vs H Q E h => ?_) (fun cdv A outer s H vs Q E hr h => ?_)
  · obtain ⟨a, x, rfl, _⟩ := h; rfl
  · obtain ⟨a, x, rfl, hx, ha, q⟩ := h
    refine ⟨_, pss_cons (ps_expr (pe_coinit rfl T.mg_SourceError T.bi_SourceError (pa_cons (cv 0) (pa_cons (pe_joined (.cons pe_str (.cons (pe_fmt (cv 1)) .nil))) pa_nil))))
      (pss_one (ps_ost (cv 0) (cv 1) rfl)), ?_⟩
    tm_at "w"
    refine ⟨_, rfl, by rw [sizeLine_eq]; simp only [str_len_app]; show 0 + 16 ≤ _; omega, ?_⟩
    refine fmt_ok hx fun y1 l1 => ?_
    refine ⟨_, rfl, by rw [sizeLine_eq]; simp only [str_len_app]; show 0 + 16 + y1.length ≤ _; omega, ?_⟩
    refine ⟨a, _, [_], rfl, by show 1 ≤ 1000; decide, T.ox_BadSystem.oex, ha, ?_⟩
    refine ⟨a, _, rfl, T.ox_BadSystem.oex, T.na_BadSystem_name, .inl ⟨ha, fun d hd hn => ?_⟩⟩
    exact q _ (ini_same hd) (.inr ⟨d, upd_same, upd_oth hn upd_same⟩)
theorem ok_Occupied_XinitX (T : Txt P K mg ad) : FnOk P w K mg base CX0 1 ad.a_Occupied_XinitX ad.d_Occupied_XinitX ["self", "path"] (spIni1 ad.c_Occupied "path") := by
  refine T.f_Occupied_XinitX.ok sc_Occupied_XinitX (fun vs H Q E h => ?_) (fun cdv A outer s H vs Q E hr h => ?_)
  · obtain ⟨a, x, rfl, _⟩ := h; rfl
  · obtain ⟨a, x, rfl, hx, ha, q⟩ := h
    refine ⟨_, pss_cons (ps_expr (pe_coinit rfl T.mg_SourceError T.bi_SourceError (pa_cons (cv 0) (pa_cons (pe_joined (.cons (pe_fmt (cv 1)) (.cons pe_str .nil))) pa_nil))))
      (pss_one (ps_ost (cv 0) (cv 1) rfl)), ?_⟩
    tm_at "w"
    refine fmt_ok hx fun y1 l1 => ?_
    refine ⟨_, rfl, by rw [sizeLine_eq]; simp only [str_len_app]; show 0 + y1.length ≤ _; omega, ?_⟩
    refine ⟨_, rfl, by rw [sizeLine_eq]; simp only [str_len_app]; show 0 + y1.length + 12 ≤ _; omega, ?_⟩
    refine ⟨a, _, [_], rfl, by show 1 ≤ 1000; decide, T.ox_Occupied.oex, ha, ?_⟩
    refine ⟨a, _, rfl, T.ox_Occupied.oex, T.na_Occupied_path, .inl ⟨ha, fun d hd hn => ?_⟩⟩
    exact q _ (ini_same hd) (.inr ⟨d, upd_same, upd_oth hn upd_same⟩)
theorem ok_NotWaiting_XinitX (T : Txt P K mg ad) : FnOk P w K mg base CX0 1 ad.a_NotWaiting_XinitX ad.d_NotWaiting_XinitX ["self", "path"] (spIni1 ad.c_NotWaiting "path") := by
  refine T.f_NotWaiting_XinitX.ok sc_NotWaiting_XinitX (fun vs H Q E h => ?_) (fun cdv A outer s H vs Q E hr h => ?_)
  · obtain ⟨a, x, rfl, _⟩ := h; rfl
  · obtain ⟨a, x, rfl, hx, ha, q⟩ := h
    refine ⟨_, pss_cons (ps_expr (pe_coinit rfl T.mg_SourceError T.bi_SourceError (pa_cons (cv 0) (pa_cons (pe_joined (.cons (pe_fmt (cv 1)) (.cons pe_str .nil))) pa_nil))))
      (pss_one (ps_ost (cv 0) (cv 1) rfl)), ?_⟩
    tm_at "w"
    refine fmt_ok hx fun y1 l1 => ?_
    refine ⟨_, rfl, by rw [sizeLine_eq]; simp only [str_len_app]; show 0 + y1.length ≤ _; omega, ?_⟩
    refine ⟨_, rfl, by rw [sizeLine_eq]; simp only [str_len_app]; show 0 + y1.length + 14 ≤ _; omega, ?_⟩
    refine ⟨a, _, [_], rfl, by show 1 ≤ 1000; decide, T.ox_NotWaiting.oex, ha, ?_⟩
    refine ⟨a, _, rfl, T.ox_NotWaiting.oex, T.na_NotWaiting_path, .inl ⟨ha, fun d hd hn => ?_⟩⟩
    exact q _ (ini_same hd) (.inr ⟨d, upd_same, upd_oth hn upd_same⟩)
theorem ok_BadRecord_XinitX (T : Txt P K mg ad) : FnOk P w K mg base CX0 1 ad.a_BadRecord_XinitX ad.d_BadRecord_XinitX ["self", "name"] (spIni1 ad.c_BadRecord "name") := by
  refine T.f_BadRecord_XinitX.ok sc_BadRecord_XinitX (fun vs H Q E h => ?_) (fun cdv A outer s H vs Q E hr h => ?_)
  · obtain ⟨a, x, rfl, _⟩ := h; rfl
  · obtain ⟨a, x, rfl, hx, ha, q⟩ := h
    refine ⟨_, pss_cons (ps_expr (pe_coinit rfl T.mg_SourceError T.bi_SourceError (pa_cons (cv 0) (pa_cons (pe_joined (.cons pe_str (.cons (pe_fmt (cv 1)) .nil))) pa_nil))))
      (pss_one (ps_ost (cv 0) (cv 1) rfl)), ?_⟩
    tm_at "w"
    refine ⟨_, rfl, by rw [sizeLine_eq]; simp only [str_len_app]; show 0 + 15 ≤ _; omega, ?_⟩
    refine fmt_ok hx fun y1 l1 => ?_
    refine ⟨_, rfl, by rw [sizeLine_eq]; simp only [str_len_app]; show 0 + 15 + y1.length ≤ _; omega, ?_⟩
    refine ⟨a, _, [_], rfl, by show 1 ≤ 1000; decide, T.ox_BadRecord.oex, ha, ?_⟩
    refine ⟨a, _, rfl, T.ox_BadRecord.oex, T.na_BadRecord_name, .inl ⟨ha, fun d hd hn => ?_⟩⟩
    exact q _ (ini_same hd) (.inr ⟨d, upd_same, upd_oth hn upd_same⟩)
theorem ok_Down_XinitX (T : Txt P K mg ad) : FnOk P w K mg base CX0 1 ad.a_Down_XinitX ad.d_Down_XinitX ["self"] (spIni0 ad.c_Down) := by
  refine T.f_Down_XinitX.ok sc_Down_XinitX (fun vs H Q E h => ?_) (fun cdv A outer s H vs Q E hr h => ?_)
  · obtain ⟨a, rfl, _⟩ := h; rfl
  · obtain ⟨a, rfl, ha, q⟩ := h
    refine ⟨_, pss_one (ps_expr (pe_coinit rfl T.mg_SourceError T.bi_SourceError (pa_cons (cv 0) (pa_cons pe_str pa_nil)))), ?_⟩
    tm_at "w"
    refine ⟨a, _, [_], rfl, by show 1 ≤ 1000; decide, T.ox_Down.oex, ha, ?_⟩
    exact q
theorem ok_Unrecorded_XinitX (T : Txt P K mg ad) : FnOk P w K mg base CX0 1 ad.a_Unrecorded_XinitX ad.d_Unrecorded_XinitX ["self"] (spIni0 ad.c_Unrecorded) := by
  refine T.f_Unrecorded_XinitX.ok sc_Unrecorded_XinitX (fun vs H Q E h => ?_) (fun cdv A outer s H vs Q E hr h => ?_)
  · obtain ⟨a, rfl, _⟩ := h; rfl
  · obtain ⟨a, rfl, ha, q⟩ := h
    refine ⟨_, pss_one (ps_expr (pe_coinit rfl T.mg_SourceError T.bi_SourceError (pa_cons (cv 0) (pa_cons pe_str pa_nil)))), ?_⟩
    tm_at "w"
    refine ⟨a, _, [_], rfl, by show 1 ≤ 1000; decide, T.ox_Unrecorded.oex, ha, ?_⟩
    exact q
theorem ok_Unchanged_XinitX (T : Txt P K mg ad) : FnOk P w K mg base CX0 1 ad.a_Unchanged_XinitX ad.d_Unchanged_XinitX ["self"] (spIni0 ad.c_Unchanged) := by
  refine T.f_Unchanged_XinitX.ok sc_Unchanged_XinitX (fun vs H Q E h => ?_) (fun cdv A outer s H vs Q E hr h => ?_)
  · obtain ⟨a, rfl, _⟩ := h; rfl
  · obtain ⟨a, rfl, ha, q⟩ := h
    refine ⟨_, pss_one (ps_expr (pe_coinit rfl T.mg_SourceError T.bi_SourceError (pa_cons (cv 0) (pa_cons pe_str pa_nil)))), ?_⟩
    tm_at "w"
    refine ⟨a, _, [_], rfl, by show 1 ≤ 1000; decide, T.ox_Unchanged.oex, ha, ?_⟩
    exact q
theorem ok_TooFew_XinitX (T : Txt P K mg ad) : FnOk P w K mg base CX0 1 ad.a_TooFew_XinitX ad.d_TooFew_XinitX ["self", "count"] (spIni1 ad.c_TooFew "count") := by
  refine T.f_TooFew_XinitX.ok sc_TooFew_XinitX (fun vs H Q E h => ?_) (fun cdv A outer s H vs Q E hr h => ?_)
  · obtain ⟨a, x, rfl, _⟩ := h; rfl
  · obtain ⟨a, x, rfl, hx, ha, q⟩ := h
    refine ⟨_, pss_cons (ps_expr (pe_coinit rfl T.mg_SourceError T.bi_SourceError (pa_cons (cv 0) (pa_cons (pe_joined (.cons pe_str (.cons (pe_fmt (cv 1)) .nil))) pa_nil))))
      (pss_one (ps_ost (cv 0) (cv 1) rfl)), ?_⟩
    tm_at "w"
    refine ⟨_, rfl, by rw [sizeLine_eq]; simp only [str_len_app]; show 0 + 5 ≤ _; omega, ?_⟩
    refine fmt_ok hx fun y1 l1 => ?_
    refine ⟨_, rfl, by rw [sizeLine_eq]; simp only [str_len_app]; show 0 + 5 + y1.length ≤ _; omega, ?_⟩
    refine ⟨a, _, [_], rfl, by show 1 ≤ 1000; decide, T.ox_TooFew.oex, ha, ?_⟩
    refine ⟨a, _, rfl, T.ox_TooFew.oex, T.na_TooFew_count, .inl ⟨ha, fun d hd hn => ?_⟩⟩
    exact q _ (ini_same hd) (.inr ⟨d, upd_same, upd_oth hn upd_same⟩)
theorem ok_UnknownField_XinitX (T : Txt P K mg ad) : FnOk P w K mg base CX0 1 ad.a_UnknownField_XinitX ad.d_UnknownField_XinitX ["self", "name"] (spIni1 ad.c_UnknownField "name") := by
  refine T.f_UnknownField_XinitX.ok sc_UnknownField_XinitX (fun vs H Q E h => ?_) (fun cdv A outer s H vs Q E hr h => ?_)
  · obtain ⟨a, x, rfl, _⟩ := h; rfl
  · obtain ⟨a, x, rfl, hx, ha, q⟩ := h
    refine ⟨_, pss_cons (ps_expr (pe_coinit rfl T.mg_SourceError T.bi_SourceError (pa_cons (cv 0) (pa_cons (pe_joined (.cons pe_str (.cons (pe_fmt (cv 1)) .nil))) pa_nil))))
      (pss_one (ps_ost (cv 0) (cv 1) rfl)), ?_⟩
    tm_at "w"
    refine ⟨_, rfl, by rw [sizeLine_eq]; simp only [str_len_app]; show 0 + 9 ≤ _; omega, ?_⟩
    refine fmt_ok hx fun y1 l1 => ?_
    refine ⟨_, rfl, by rw [sizeLine_eq]; simp only [str_len_app]; show 0 + 9 + y1.length ≤ _; omega, ?_⟩
    refine ⟨a, _, [_], rfl, by show 1 ≤ 1000; decide, T.ox_UnknownField.oex, ha, ?_⟩
    refine ⟨a, _, rfl, T.ox_UnknownField.oex, T.na_UnknownField_name, .inl ⟨ha, fun d hd hn => ?_⟩⟩
    exact q _ (ini_same hd) (.inr ⟨d, upd_same, upd_oth hn upd_same⟩)
end
end Toy

namespace Toy
open PySem L2
local macro_rules | `(tactic| tm_at "w") => `(tactic| (conv => whnf))
local macro_rules | `(tactic| tm_at "fr") => `(tactic| first | assumption | exact upd_none (by assumption) | exact upd_none (upd_none (by assumption)) | exact upd_none (upd_none (upd_none (by assumption))) | exact upd_none (upd_none (upd_none (upd_none (by assumption)))))
local macro_rules | `(tactic| tm_at "ne") => `(tactic| first | assumption | (apply Ne.symm; assumption) | exact upd_none_ne (by assumption) | exact (upd_none_ne (by assumption)).symm | exact upd_none_ne (upd_none (by assumption)) | exact (upd_none_ne (upd_none (by assumption))).symm | exact upd_none_ne (upd_none (upd_none (by assumption))) | exact (upd_none_ne (upd_none (upd_none (by assumption)))).symm)
local macro_rules | `(tactic| tm_at "heap") => `(tactic| first | assumption | exact upd_same | (refine upd_new ?_ (by tm_at "fr"); tm_at "heap") | (refine upd_oth (by tm_at "ne") ?_; tm_at "heap") | (refine SameB.get (by assumption) (by tm_at "ne") ?_; tm_at "heap") | (refine Same.get (by assumption) ?_; tm_at "heap"))
local macro_rules | `(tactic| tm_at "sq") => `(tactic| first | assumption | exact SqL.of (by tm_at "heap") | exact SqT.of (by tm_at "heap"))
local macro_rules | `(tactic| tm_at "ix") => `(tactic| (conv => whnf); first | refine ⟨_, _, .inl (by tm_at "sq"), rfl, ?_⟩ | refine ⟨_, _, .inr (by tm_at "sq"), rfl, ?_⟩)
local macro_rules | `(tactic| tm_at "sb") => `(tactic| first | assumption | exact SameB.refl | (refine SameB.ws ?_; tm_at "sb") | (refine SameB.wr ?_ (by tm_at "fr"); tm_at "sb") | (refine SameB.trans ?_ (by assumption); tm_at "sb"))
section
variable {P : Program} {w : World} {K : PySem.W.Frag} {mg : Str → Option Value} {base : Heap} {ad : Ad}
theorem ok_law_draw (T : Txt P K mg ad) : FnOk P w K mg base CX0 1 ad.a_law_draw ad.d_law_draw ["_law_source_here", "_law_bound"] spDraw := by
  refine T.f_law_draw.ok sc_law_draw (fun vs H Q E h => ?_) (fun cdv A outer s H vs Q E hr h => ?_)
  · obtain ⟨s, n, k, xs, rfl, _⟩ := h; rfl
  · obtain ⟨s, n, k, xs, rfl, hs, ⟨a, b, c, rfl, ha, hb, hb2, hc, hc2⟩, hk, hn, hn2, q⟩ := h
    refine ⟨_, pss_cons (cs_if (ct_cmp oc_gt (pe_ix (ic_seq (K := K)) (cv 0) pe_int (fun _ _ => rfl)) pe_int (nomark _))
        (pss_cons (ps_set (i := 2) sc_law_draw.nd rfl (by first | exact Or.inl rfl | exact Or.inr rfl) (pe_op oc_mod (pe_callTy cc_int (by rfl) T.n_int (by decide +kernel) (pa_cons (pe_ix (ic_seq (K := K)) (cv 0) pe_int (fun _ _ => rfl)) pa_nil)) (cv 1)))
        (pss_cons (ps_asg (pe_op oc_div (pe_ix (ic_seq (K := K)) (cv 0) pe_int (fun _ _ => rfl)) (cv 1)) (pg_sub (cv 0) pe_int set_c))
        (pss_one (ps_ret (cv 2)))))
        pss_nil)
      (pss_cons (ps_asg (pe_op (oc_add (K := K)) (pe_ix (ic_seq (K := K)) (cv 0) pe_int (fun _ _ => rfl)) pe_int) (pg_sub (cv 0) pe_int set_c))
      (pss_cons (ps_set (i := 3) sc_law_draw.nd rfl (by first | exact Or.inl rfl | exact Or.inr rfl) (pe_op oc_mod (pe_callTy cc_int (by rfl) T.n_int (by decide +kernel) (pa_cons (pe_op oc_pow (pe_op (oc_add (K := K)) (pe_ix (ic_seq (K := K)) (cv 0) pe_int (fun _ _ => rfl)) (pe_op oc_mul pe_int (pe_ix (ic_seq (K := K)) (cv 0) pe_int (fun _ _ => rfl)))) pe_int) pa_nil)) (pe_op (oc_add (K := K)) (pe_op oc_pow pe_int pe_int) pe_int)))
      (pss_cons (ps_set (i := 3) sc_law_draw.nd rfl (by first | exact Or.inl rfl | exact Or.inr rfl) (pe_op oc_mod (pe_callTy cc_int (by rfl) T.n_int (by decide +kernel) (pa_cons (pe_op oc_pow (pe_op (oc_add (K := K)) (cv 3) (pe_op oc_mul pe_int (pe_ix (ic_seq (K := K)) (cv 0) pe_int (fun _ _ => rfl)))) pe_int) pa_nil)) (pe_op (oc_add (K := K)) (pe_op oc_pow pe_int pe_int) pe_int)))
      (pss_one (ps_ret (pe_op oc_mod (pe_callTy cc_int (by rfl) T.n_int (by decide +kernel) (pa_cons (pe_op oc_div (cv 3) pe_int) pa_nil)) (cv 1))))))), ?_⟩
    tm_at "ix"
    refine ⟨fun h => ?_, fun h => ?_⟩
    · have h := of_decide_eq_true h
      tm_at "ix"
      refine ⟨hn, ?_⟩
      tm_at "ix"
      refine ⟨wide_div hn (b := 200) (by omega) (by decide) (by decide), ?_⟩
      tm_at "w"
      refine ⟨_, 0, hs, rfl, ?_⟩
      exact q _ _ (Int.emod_nonneg _ (by omega)) (Int.emod_lt_of_pos _ hn) ⟨a / n, b, c, rfl, Int.ediv_nonneg ha (by omega), hb, hb2, hc, by omega⟩
    · tm_at "ix"
      tm_at "w"
      refine ⟨_, 2, hs, rfl, ?_⟩
      tm_at "ix"
      tm_at "ix"
      refine ⟨.inl (by decide), ?_⟩
      have e1 : (b + 15485863 * (c + 1)).natAbs < 2 ^ 201 := by omega
      refine ⟨pow_bits e1 (by decide) (by decide) (by decide), ?_⟩
      refine ⟨pow_bits (a := 4) (by decide) (by decide) (by decide) (by decide), ?_⟩
      refine ⟨(by show (0 : Int) < 10 ^ 35 + 69; decide), ?_⟩
      have e2 : ∀ m : Int, 0 ≤ m → m < 2 ^ 130 → (m + 32452843 * (c + 1)).natAbs < 2 ^ 201 := by intro m h1 h2; omega
      tm_at "ix"
      refine ⟨.inl (by decide), ?_⟩
      refine ⟨pow_bits (e2 _ (Int.emod_nonneg _ (by decide)) (Int.lt_trans (Int.emod_lt_of_pos _ (by decide)) (by decide))) (by decide) (by decide) (by decide), ?_⟩
      refine ⟨pow_bits (a := 4) (by decide) (by decide) (by decide) (by decide), ?_⟩
      refine ⟨(by show (0 : Int) < 10 ^ 32 + 49; decide), ?_⟩
      refine ⟨wide_div (by decide) (b := 20) (by decide) (by decide) (by decide), ?_⟩
      refine ⟨hn, ?_⟩
      exact q _ _ (Int.emod_nonneg _ (by omega)) (Int.emod_lt_of_pos _ hn) ⟨a, b, c + 1, rfl, ha, hb, hb2, by omega, by omega⟩
theorem ok_law_source (T : Txt P K mg ad) : FnOk P w K mg base CX0 1 ad.a_law_source ad.d_law_source ["_law_script", "_law_cell_number"] (spSource K) := by
  refine T.f_law_source.ok sc_law_source (fun vs H Q E h => ?_) (fun cdv A outer s H vs Q E hr h => ?_)
  · obtain ⟨a, i, ns, rfl, _⟩ := h; rfl
  · obtain ⟨a, i, ns, rfl, hs, hl, hi, hi2, q⟩ := h
    refine ⟨_, pss_cons (ps_set (i := 2) sc_law_source.nd rfl (by first | exact Or.inl rfl | exact Or.inr rfl) pe_int)
      (pss_cons (PS.cut (cs_if (ct_cmp oc_lt (cv 1) (pe_callB (cc_len (K := K)) (by rfl) T.n_len (by decide +kernel) (pa_cons (cv 0) pa_nil)) (nomark _))
        (pss_one (ps_set (i := 2) sc_law_source.nd rfl (by first | exact Or.inl rfl | exact Or.inr rfl) (pe_ix (ic_seq (K := K)) (cv 0) (cv 1) (fun _ _ => rfl))))
        pss_nil))
      (pss_one (ps_ret (pe_lst (pa_cons (pe_callB (cc_max rfl) (by rfl) T.n_max (by decide +kernel) (pa_cons pe_int (pa_cons (pe_op oc_sub (cv 2) (pe_op oc_pow pe_int pe_int)) pa_nil))) (pa_cons (pe_op (oc_add (K := K)) (pe_op oc_mod (pe_callTy cc_int (by rfl) T.n_int (by decide +kernel) (pa_cons (cv 2) pa_nil)) (pe_op (oc_add (K := K)) (pe_op oc_pow pe_int pe_int) pe_int)) (pe_op oc_mul pe_int (cv 1))) (pa_cons pe_int pa_nil))))))), ?_⟩
    refine ⟨fun σ' H' => ∃ c : Int, σ' = [some (.ref a), some (.int i), some (.int c)] ∧ H' = H, ?_, ?_⟩
    · tm_at "w"
      refine ⟨ns.map V.int, .inl hs, fun h => ?_, fun h => ⟨_, rfl, rfl⟩⟩
      have h := of_decide_eq_true h
      rw [List.length_map] at h
      obtain ⟨j, rfl⟩ := Int.eq_ofNat_of_zero_le hi
      have hj : j < ns.length := by omega
      exact ⟨_, _, .inl hs, atI_nat (by rw [List.getElem?_map, List.getElem?_eq_getElem hj]; rfl), _, rfl, rfl⟩
    · rintro σ' H' ⟨c, rfl, rfl⟩
      refine ⟨pow_bits (a := 4) (by decide) (by decide) (by decide) (by decide), ?_⟩
      refine ⟨pow_bits (a := 4) (by decide) (by decide) (by decide) (by decide), ?_⟩
      refine ⟨(by show (0 : Int) < 10 ^ 37 + 43; decide), ?_⟩
      refine ⟨.inl (by decide), by show 3 ≤ sizeLine; decide, fun p hp => q _ _ hp ?_⟩
      have h1 : 0 ≤ c % (10 ^ 37 + 43) := Int.emod_nonneg _ (by decide)
      have h2 : c % (10 ^ 37 + 43) < 10 ^ 37 + 43 := Int.emod_lt_of_pos _ (by decide)
      exact ⟨_, _, _, rfl, Int.le_max_left _ _, (by show 0 ≤ c % (10 ^ 37 + 43) + 1299709 * i; omega), (by show c % (10 ^ 37 + 43) + 1299709 * i < 2 ^ 200; omega), by decide, by decide⟩
end
def clsL (ad : Ad) : List Addr := [ad.c_BadName, ad.c_BadPath, ad.c_NoFile, ad.c_BadHunk, ad.c_BadPatch, ad.c_Refused, ad.c_Entangled, ad.c_BadSeries, ad.c_Stopped, ad.c_BadRecipe, ad.c_Outside, ad.c_Absent, ad.c_BadArchive, ad.c_NoPlan, ad.c_Unrecorded, ad.c_Unchanged, ad.c_TooFew, ad.c_UnknownField, ad.c_NoOrder, ad.c_NoPatch, ad.c_Clashed, ad.c_BadChoice, ad.c_BadJob, ad.c_BadPlan, ad.c_NoTurn, ad.c_NotClosed, ad.c_BadRelease, ad.c_NoRelease, ad.c_NoChoice, ad.c_BadSystem, ad.c_Occupied, ad.c_NotWaiting, ad.c_BadRecord, ad.c_Down]
theorem kt_all {K : PySem.W.Frag} {S : Addr} {l : List Addr} (h : ktB K S l = true) {c : Addr} (hc : c ∈ l) : (∀ d ∈ l, PySem.W.kitOne K (.ref c) (.ref d) = some (c == d)) ∧ PySem.W.kitOne K (.ref c) (.ref S) = some true ∧ PySem.W.kitOne K (.ref c) (.type "ValueError") = some true := by
  have h1 := List.all_eq_true.mp h c hc
  simp only [Bool.and_eq_true, List.all_eq_true, beq_iff_eq] at h1
  exact ⟨h1.1, h1.2⟩
/-- what _law_flags gives for an error of the i-th class -/
def rowOf (i : Nat) : List Bool := ((List.range 34).map fun j => decide (i = j)) ++ [false, false]
def spFlags (K : PySem.W.Frag) (ad : Ad) : Sp := fun vs H Q _ => ∃ a C fI fs i, vs = [.ref a] ∧ ErrAt H a C fs ∧ OxF K C fI ∧ (clsL ad)[i]? = some C ∧ ∀ p H', Same H H' → H' p = some (.lst ((rowOf i).map V.bl)) → Q (.ref p) H'
section
variable {P : Program} {w : World} {K : PySem.W.Frag} {mg : Str → Option Value} {base : Heap} {ad : Ad}
theorem kt_at (T : Txt P K mg ad) {i : Nat} {C : Addr} (h : (clsL ad)[i]? = some C) (j : Nat) {D : Addr} (g : (clsL ad)[j]? = some D) : PySem.W.kitOne K (.ref C) (.ref D) = some (decide (i = j)) := by
  have hk : ktB K ad.c_SourceError (clsL ad) = true := T.kt
  have hn : (clsL ad).Nodup := T.nd
  rw [(kt_all hk (List.mem_of_getElem? h)).1 D (List.mem_of_getElem? g)]
  by_cases e : i = j
  · subst e
    rw [h] at g
    cases g
    simp
  · have : C ≠ D := fun q => e ((List.getElem?_inj (List.getElem?_eq_some_iff.mp h).1 hn).mp (by rw [h, g, q]))
    simp [e, this]
theorem ok_law_flags (T : Txt P K mg ad) : FnOk P w K mg base CX0 1 ad.a_law_flags ad.d_law_flags ["_law_e"] (spFlags K ad) := by
  refine T.f_law_flags.ok sc_law_flags (fun vs H Q E h => ?_) (fun cdv A outer s H vs Q E hr h => ?_)
  · obtain ⟨a, C, fI, fs, i, rfl, _⟩ := h; rfl
  · obtain ⟨a, C, fI, fs, i, rfl, he, ox, hi, q⟩ := h
    have hk : ktB K ad.c_SourceError (clsL ad) = true := T.kt
    obtain ⟨_, k1, k2⟩ := kt_all hk (List.mem_of_getElem? hi)
    have hi34 : i < 34 := (List.getElem?_eq_some_iff.mp hi).1
    refine ⟨_, pss_cons (ps_set (i := 1) sc_law_flags.nd rfl (by first | exact Or.inl rfl | exact Or.inr rfl) (pe_lst (pa_cons (pe_callB (cc_isX (K := K)) (by rfl) T.n_isinstance (by decide +kernel) (pa_cons (cv 0) (pa_cons (pe_glob (v := .ref ad.c_BadName) rfl T.mg_BadName rfl) pa_nil))) (pa_cons (pe_callB (cc_isX (K := K)) (by rfl) T.n_isinstance (by decide +kernel) (pa_cons (cv 0) (pa_cons (pe_glob (v := .ref ad.c_BadPath) rfl T.mg_BadPath rfl) pa_nil))) (pa_cons (pe_callB (cc_isX (K := K)) (by rfl) T.n_isinstance (by decide +kernel) (pa_cons (cv 0) (pa_cons (pe_glob (v := .ref ad.c_NoFile) rfl T.mg_NoFile rfl) pa_nil))) (pa_cons (pe_callB (cc_isX (K := K)) (by rfl) T.n_isinstance (by decide +kernel) (pa_cons (cv 0) (pa_cons (pe_glob (v := .ref ad.c_BadHunk) rfl T.mg_BadHunk rfl) pa_nil))) pa_nil))))))
      (pss_cons (ps_set (i := 1) sc_law_flags.nd rfl (by first | exact Or.inl rfl | exact Or.inr rfl) (pe_op (oc_add (K := K)) (cv 1) (pe_lst (pa_cons (pe_callB (cc_isX (K := K)) (by rfl) T.n_isinstance (by decide +kernel) (pa_cons (cv 0) (pa_cons (pe_glob (v := .ref ad.c_BadPatch) rfl T.mg_BadPatch rfl) pa_nil))) (pa_cons (pe_callB (cc_isX (K := K)) (by rfl) T.n_isinstance (by decide +kernel) (pa_cons (cv 0) (pa_cons (pe_glob (v := .ref ad.c_Refused) rfl T.mg_Refused rfl) pa_nil))) (pa_cons (pe_callB (cc_isX (K := K)) (by rfl) T.n_isinstance (by decide +kernel) (pa_cons (cv 0) (pa_cons (pe_glob (v := .ref ad.c_Entangled) rfl T.mg_Entangled rfl) pa_nil))) pa_nil))))))
      (pss_cons (ps_set (i := 1) sc_law_flags.nd rfl (by first | exact Or.inl rfl | exact Or.inr rfl) (pe_op (oc_add (K := K)) (cv 1) (pe_lst (pa_cons (pe_callB (cc_isX (K := K)) (by rfl) T.n_isinstance (by decide +kernel) (pa_cons (cv 0) (pa_cons (pe_glob (v := .ref ad.c_BadSeries) rfl T.mg_BadSeries rfl) pa_nil))) (pa_cons (pe_callB (cc_isX (K := K)) (by rfl) T.n_isinstance (by decide +kernel) (pa_cons (cv 0) (pa_cons (pe_glob (v := .ref ad.c_Stopped) rfl T.mg_Stopped rfl) pa_nil))) (pa_cons (pe_callB (cc_isX (K := K)) (by rfl) T.n_isinstance (by decide +kernel) (pa_cons (cv 0) (pa_cons (pe_glob (v := .ref ad.c_BadRecipe) rfl T.mg_BadRecipe rfl) pa_nil))) pa_nil))))))
      (pss_cons (ps_set (i := 1) sc_law_flags.nd rfl (by first | exact Or.inl rfl | exact Or.inr rfl) (pe_op (oc_add (K := K)) (cv 1) (pe_lst (pa_cons (pe_callB (cc_isX (K := K)) (by rfl) T.n_isinstance (by decide +kernel) (pa_cons (cv 0) (pa_cons (pe_glob (v := .ref ad.c_Outside) rfl T.mg_Outside rfl) pa_nil))) (pa_cons (pe_callB (cc_isX (K := K)) (by rfl) T.n_isinstance (by decide +kernel) (pa_cons (cv 0) (pa_cons (pe_glob (v := .ref ad.c_Absent) rfl T.mg_Absent rfl) pa_nil))) (pa_cons (pe_callB (cc_isX (K := K)) (by rfl) T.n_isinstance (by decide +kernel) (pa_cons (cv 0) (pa_cons (pe_glob (v := .ref ad.c_BadArchive) rfl T.mg_BadArchive rfl) pa_nil))) (pa_cons (pe_callB (cc_isX (K := K)) (by rfl) T.n_isinstance (by decide +kernel) (pa_cons (cv 0) (pa_cons (pe_glob (v := .ref ad.c_NoPlan) rfl T.mg_NoPlan rfl) pa_nil))) pa_nil)))))))
      (pss_cons (ps_set (i := 1) sc_law_flags.nd rfl (by first | exact Or.inl rfl | exact Or.inr rfl) (pe_op (oc_add (K := K)) (cv 1) (pe_lst (pa_cons (pe_callB (cc_isX (K := K)) (by rfl) T.n_isinstance (by decide +kernel) (pa_cons (cv 0) (pa_cons (pe_glob (v := .ref ad.c_Unrecorded) rfl T.mg_Unrecorded rfl) pa_nil))) (pa_cons (pe_callB (cc_isX (K := K)) (by rfl) T.n_isinstance (by decide +kernel) (pa_cons (cv 0) (pa_cons (pe_glob (v := .ref ad.c_Unchanged) rfl T.mg_Unchanged rfl) pa_nil))) (pa_cons (pe_callB (cc_isX (K := K)) (by rfl) T.n_isinstance (by decide +kernel) (pa_cons (cv 0) (pa_cons (pe_glob (v := .ref ad.c_TooFew) rfl T.mg_TooFew rfl) pa_nil))) pa_nil))))))
      (pss_cons (ps_set (i := 1) sc_law_flags.nd rfl (by first | exact Or.inl rfl | exact Or.inr rfl) (pe_op (oc_add (K := K)) (cv 1) (pe_lst (pa_cons (pe_callB (cc_isX (K := K)) (by rfl) T.n_isinstance (by decide +kernel) (pa_cons (cv 0) (pa_cons (pe_glob (v := .ref ad.c_UnknownField) rfl T.mg_UnknownField rfl) pa_nil))) (pa_cons (pe_callB (cc_isX (K := K)) (by rfl) T.n_isinstance (by decide +kernel) (pa_cons (cv 0) (pa_cons (pe_glob (v := .ref ad.c_NoOrder) rfl T.mg_NoOrder rfl) pa_nil))) (pa_cons (pe_callB (cc_isX (K := K)) (by rfl) T.n_isinstance (by decide +kernel) (pa_cons (cv 0) (pa_cons (pe_glob (v := .ref ad.c_NoPatch) rfl T.mg_NoPatch rfl) pa_nil))) pa_nil))))))
      (pss_cons (ps_set (i := 1) sc_law_flags.nd rfl (by first | exact Or.inl rfl | exact Or.inr rfl) (pe_op (oc_add (K := K)) (cv 1) (pe_lst (pa_cons (pe_callB (cc_isX (K := K)) (by rfl) T.n_isinstance (by decide +kernel) (pa_cons (cv 0) (pa_cons (pe_glob (v := .ref ad.c_Clashed) rfl T.mg_Clashed rfl) pa_nil))) (pa_cons (pe_callB (cc_isX (K := K)) (by rfl) T.n_isinstance (by decide +kernel) (pa_cons (cv 0) (pa_cons (pe_glob (v := .ref ad.c_BadChoice) rfl T.mg_BadChoice rfl) pa_nil))) (pa_cons (pe_callB (cc_isX (K := K)) (by rfl) T.n_isinstance (by decide +kernel) (pa_cons (cv 0) (pa_cons (pe_glob (v := .ref ad.c_BadJob) rfl T.mg_BadJob rfl) pa_nil))) (pa_cons (pe_callB (cc_isX (K := K)) (by rfl) T.n_isinstance (by decide +kernel) (pa_cons (cv 0) (pa_cons (pe_glob (v := .ref ad.c_BadPlan) rfl T.mg_BadPlan rfl) pa_nil))) pa_nil)))))))
      (pss_cons (ps_set (i := 1) sc_law_flags.nd rfl (by first | exact Or.inl rfl | exact Or.inr rfl) (pe_op (oc_add (K := K)) (cv 1) (pe_lst (pa_cons (pe_callB (cc_isX (K := K)) (by rfl) T.n_isinstance (by decide +kernel) (pa_cons (cv 0) (pa_cons (pe_glob (v := .ref ad.c_NoTurn) rfl T.mg_NoTurn rfl) pa_nil))) (pa_cons (pe_callB (cc_isX (K := K)) (by rfl) T.n_isinstance (by decide +kernel) (pa_cons (cv 0) (pa_cons (pe_glob (v := .ref ad.c_NotClosed) rfl T.mg_NotClosed rfl) pa_nil))) (pa_cons (pe_callB (cc_isX (K := K)) (by rfl) T.n_isinstance (by decide +kernel) (pa_cons (cv 0) (pa_cons (pe_glob (v := .ref ad.c_BadRelease) rfl T.mg_BadRelease rfl) pa_nil))) pa_nil))))))
      (pss_cons (ps_set (i := 1) sc_law_flags.nd rfl (by first | exact Or.inl rfl | exact Or.inr rfl) (pe_op (oc_add (K := K)) (cv 1) (pe_lst (pa_cons (pe_callB (cc_isX (K := K)) (by rfl) T.n_isinstance (by decide +kernel) (pa_cons (cv 0) (pa_cons (pe_glob (v := .ref ad.c_NoRelease) rfl T.mg_NoRelease rfl) pa_nil))) (pa_cons (pe_callB (cc_isX (K := K)) (by rfl) T.n_isinstance (by decide +kernel) (pa_cons (cv 0) (pa_cons (pe_glob (v := .ref ad.c_NoChoice) rfl T.mg_NoChoice rfl) pa_nil))) (pa_cons (pe_callB (cc_isX (K := K)) (by rfl) T.n_isinstance (by decide +kernel) (pa_cons (cv 0) (pa_cons (pe_glob (v := .ref ad.c_BadSystem) rfl T.mg_BadSystem rfl) pa_nil))) pa_nil))))))
      (pss_cons (ps_set (i := 1) sc_law_flags.nd rfl (by first | exact Or.inl rfl | exact Or.inr rfl) (pe_op (oc_add (K := K)) (cv 1) (pe_lst (pa_cons (pe_callB (cc_isX (K := K)) (by rfl) T.n_isinstance (by decide +kernel) (pa_cons (cv 0) (pa_cons (pe_glob (v := .ref ad.c_Occupied) rfl T.mg_Occupied rfl) pa_nil))) (pa_cons (pe_callB (cc_isX (K := K)) (by rfl) T.n_isinstance (by decide +kernel) (pa_cons (cv 0) (pa_cons (pe_glob (v := .ref ad.c_NotWaiting) rfl T.mg_NotWaiting rfl) pa_nil))) (pa_cons (pe_callB (cc_isX (K := K)) (by rfl) T.n_isinstance (by decide +kernel) (pa_cons (cv 0) (pa_cons (pe_glob (v := .ref ad.c_BadRecord) rfl T.mg_BadRecord rfl) pa_nil))) (pa_cons (pe_callB (cc_isX (K := K)) (by rfl) T.n_isinstance (by decide +kernel) (pa_cons (cv 0) (pa_cons (pe_glob (v := .ref ad.c_Down) rfl T.mg_Down rfl) pa_nil))) pa_nil)))))))
      (pss_one (ps_ret (pe_op (oc_add (K := K)) (cv 1) (pe_lst (pa_cons (pe_not (pe_callB (cc_isX (K := K)) (by rfl) T.n_isinstance (by decide +kernel) (pa_cons (cv 0) (pa_cons (pe_glob (v := .ref ad.c_SourceError) rfl T.mg_SourceError rfl) pa_nil)))) (pa_cons (pe_not (pe_callB (cc_isX (K := K)) (by rfl) T.n_isinstance (by decide +kernel) (pa_cons (cv 0) (pa_cons (pe_bltn (v := .ty "ValueError") (by rfl) T.n_ValueError (by decide +kernel) rfl) pa_nil)))) pa_nil))))))))))))))), ?_⟩
    tm_at "w"
    refine ⟨C, fI, fs, _, he, ox, kt_at T hi 0 rfl, ?_⟩
    tm_at "w"
    refine ⟨C, fI, fs, _, he, ox, kt_at T hi 1 rfl, ?_⟩
    tm_at "w"
    refine ⟨C, fI, fs, _, he, ox, kt_at T hi 2 rfl, ?_⟩
    tm_at "w"
    refine ⟨C, fI, fs, _, he, ox, kt_at T hi 3 rfl, ?_⟩
    tm_at "w"
    refine ⟨by show 4 ≤ sizeLine; decide, fun p0 hp0 => ?_⟩
    have he1 := fun o => he.same (Same.new (o := o) hp0)
    have st1 := fun o => Same.new (o := o) hp0
    tm_at "w"
    refine ⟨C, fI, fs, _, (he1 _), ox, kt_at T hi 4 rfl, ?_⟩
    tm_at "w"
    refine ⟨C, fI, fs, _, (he1 _), ox, kt_at T hi 5 rfl, ?_⟩
    tm_at "w"
    refine ⟨C, fI, fs, _, (he1 _), ox, kt_at T hi 6 rfl, ?_⟩
    tm_at "w"
    refine ⟨by show 3 ≤ sizeLine; decide, fun p1 hp1 => ?_⟩
    have he2 := fun o => (he1 _).same (Same.new (o := o) hp1)
    have st2 := fun o => Same.trans (st1 _) (Same.new (o := o) hp1)
    tm_at "w"
    refine .inl ⟨_, _, by tm_at "heap", by tm_at "heap", by simp only [List.length_append, List.length_cons, List.length_nil]; decide, fun p2 hp2 => ?_⟩
    have he3 := fun o => (he2 _).same (Same.new (o := o) hp2)
    have st3 := fun o => Same.trans (st2 _) (Same.new (o := o) hp2)
    tm_at "w"
    refine ⟨C, fI, fs, _, (he3 _), ox, kt_at T hi 7 rfl, ?_⟩
    tm_at "w"
    refine ⟨C, fI, fs, _, (he3 _), ox, kt_at T hi 8 rfl, ?_⟩
    tm_at "w"
    refine ⟨C, fI, fs, _, (he3 _), ox, kt_at T hi 9 rfl, ?_⟩
    tm_at "w"
    refine ⟨by show 3 ≤ sizeLine; decide, fun p3 hp3 => ?_⟩
    have he4 := fun o => (he3 _).same (Same.new (o := o) hp3)
    have st4 := fun o => Same.trans (st3 _) (Same.new (o := o) hp3)
    tm_at "w"
    refine .inl ⟨_, _, by tm_at "heap", by tm_at "heap", by simp only [List.length_append, List.length_cons, List.length_nil]; decide, fun p4 hp4 => ?_⟩
    have he5 := fun o => (he4 _).same (Same.new (o := o) hp4)
    have st5 := fun o => Same.trans (st4 _) (Same.new (o := o) hp4)
    tm_at "w"
    refine ⟨C, fI, fs, _, (he5 _), ox, kt_at T hi 10 rfl, ?_⟩
    tm_at "w"
    refine ⟨C, fI, fs, _, (he5 _), ox, kt_at T hi 11 rfl, ?_⟩
    tm_at "w"
    refine ⟨C, fI, fs, _, (he5 _), ox, kt_at T hi 12 rfl, ?_⟩
    tm_at "w"
    refine ⟨C, fI, fs, _, (he5 _), ox, kt_at T hi 13 rfl, ?_⟩
    tm_at "w"
    refine ⟨by show 4 ≤ sizeLine; decide, fun p5 hp5 => ?_⟩
    have he6 := fun o => (he5 _).same (Same.new (o := o) hp5)
    have st6 := fun o => Same.trans (st5 _) (Same.new (o := o) hp5)
    tm_at "w"
    refine .inl ⟨_, _, by tm_at "heap", by tm_at "heap", by simp only [List.length_append, List.length_cons, List.length_nil]; decide, fun p6 hp6 => ?_⟩
    have he7 := fun o => (he6 _).same (Same.new (o := o) hp6)
    have st7 := fun o => Same.trans (st6 _) (Same.new (o := o) hp6)
    tm_at "w"
    refine ⟨C, fI, fs, _, (he7 _), ox, kt_at T hi 14 rfl, ?_⟩
    tm_at "w"
    refine ⟨C, fI, fs, _, (he7 _), ox, kt_at T hi 15 rfl, ?_⟩
    tm_at "w"
    refine ⟨C, fI, fs, _, (he7 _), ox, kt_at T hi 16 rfl, ?_⟩
    tm_at "w"
    refine ⟨by show 3 ≤ sizeLine; decide, fun p7 hp7 => ?_⟩
    have he8 := fun o => (he7 _).same (Same.new (o := o) hp7)
    have st8 := fun o => Same.trans (st7 _) (Same.new (o := o) hp7)
    tm_at "w"
    refine .inl ⟨_, _, by tm_at "heap", by tm_at "heap", by simp only [List.length_append, List.length_cons, List.length_nil]; decide, fun p8 hp8 => ?_⟩
    have he9 := fun o => (he8 _).same (Same.new (o := o) hp8)
    have st9 := fun o => Same.trans (st8 _) (Same.new (o := o) hp8)
    tm_at "w"
    refine ⟨C, fI, fs, _, (he9 _), ox, kt_at T hi 17 rfl, ?_⟩
    tm_at "w"
    refine ⟨C, fI, fs, _, (he9 _), ox, kt_at T hi 18 rfl, ?_⟩
    tm_at "w"
    refine ⟨C, fI, fs, _, (he9 _), ox, kt_at T hi 19 rfl, ?_⟩
    tm_at "w"
    refine ⟨by show 3 ≤ sizeLine; decide, fun p9 hp9 => ?_⟩
    have he10 := fun o => (he9 _).same (Same.new (o := o) hp9)
    have st10 := fun o => Same.trans (st9 _) (Same.new (o := o) hp9)
    tm_at "w"
    refine .inl ⟨_, _, by tm_at "heap", by tm_at "heap", by simp only [List.length_append, List.length_cons, List.length_nil]; decide, fun p10 hp10 => ?_⟩
    have he11 := fun o => (he10 _).same (Same.new (o := o) hp10)
    have st11 := fun o => Same.trans (st10 _) (Same.new (o := o) hp10)
    tm_at "w"
    refine ⟨C, fI, fs, _, (he11 _), ox, kt_at T hi 20 rfl, ?_⟩
    tm_at "w"
    refine ⟨C, fI, fs, _, (he11 _), ox, kt_at T hi 21 rfl, ?_⟩
    tm_at "w"
    refine ⟨C, fI, fs, _, (he11 _), ox, kt_at T hi 22 rfl, ?_⟩
    tm_at "w"
    refine ⟨C, fI, fs, _, (he11 _), ox, kt_at T hi 23 rfl, ?_⟩
    tm_at "w"
    refine ⟨by show 4 ≤ sizeLine; decide, fun p11 hp11 => ?_⟩
    have he12 := fun o => (he11 _).same (Same.new (o := o) hp11)
    have st12 := fun o => Same.trans (st11 _) (Same.new (o := o) hp11)
    tm_at "w"
    refine .inl ⟨_, _, by tm_at "heap", by tm_at "heap", by simp only [List.length_append, List.length_cons, List.length_nil]; decide, fun p12 hp12 => ?_⟩
    have he13 := fun o => (he12 _).same (Same.new (o := o) hp12)
    have st13 := fun o => Same.trans (st12 _) (Same.new (o := o) hp12)
    tm_at "w"
    refine ⟨C, fI, fs, _, (he13 _), ox, kt_at T hi 24 rfl, ?_⟩
    tm_at "w"
    refine ⟨C, fI, fs, _, (he13 _), ox, kt_at T hi 25 rfl, ?_⟩
    tm_at "w"
    refine ⟨C, fI, fs, _, (he13 _), ox, kt_at T hi 26 rfl, ?_⟩
    tm_at "w"
    refine ⟨by show 3 ≤ sizeLine; decide, fun p13 hp13 => ?_⟩
    have he14 := fun o => (he13 _).same (Same.new (o := o) hp13)
    have st14 := fun o => Same.trans (st13 _) (Same.new (o := o) hp13)
    tm_at "w"
    refine .inl ⟨_, _, by tm_at "heap", by tm_at "heap", by simp only [List.length_append, List.length_cons, List.length_nil]; decide, fun p14 hp14 => ?_⟩
    have he15 := fun o => (he14 _).same (Same.new (o := o) hp14)
    have st15 := fun o => Same.trans (st14 _) (Same.new (o := o) hp14)
    tm_at "w"
    refine ⟨C, fI, fs, _, (he15 _), ox, kt_at T hi 27 rfl, ?_⟩
    tm_at "w"
    refine ⟨C, fI, fs, _, (he15 _), ox, kt_at T hi 28 rfl, ?_⟩
    tm_at "w"
    refine ⟨C, fI, fs, _, (he15 _), ox, kt_at T hi 29 rfl, ?_⟩
    tm_at "w"
    refine ⟨by show 3 ≤ sizeLine; decide, fun p15 hp15 => ?_⟩
    have he16 := fun o => (he15 _).same (Same.new (o := o) hp15)
    have st16 := fun o => Same.trans (st15 _) (Same.new (o := o) hp15)
    tm_at "w"
    refine .inl ⟨_, _, by tm_at "heap", by tm_at "heap", by simp only [List.length_append, List.length_cons, List.length_nil]; decide, fun p16 hp16 => ?_⟩
    have he17 := fun o => (he16 _).same (Same.new (o := o) hp16)
    have st17 := fun o => Same.trans (st16 _) (Same.new (o := o) hp16)
    tm_at "w"
    refine ⟨C, fI, fs, _, (he17 _), ox, kt_at T hi 30 rfl, ?_⟩
    tm_at "w"
    refine ⟨C, fI, fs, _, (he17 _), ox, kt_at T hi 31 rfl, ?_⟩
    tm_at "w"
    refine ⟨C, fI, fs, _, (he17 _), ox, kt_at T hi 32 rfl, ?_⟩
    tm_at "w"
    refine ⟨C, fI, fs, _, (he17 _), ox, kt_at T hi 33 rfl, ?_⟩
    tm_at "w"
    refine ⟨by show 4 ≤ sizeLine; decide, fun p17 hp17 => ?_⟩
    have he18 := fun o => (he17 _).same (Same.new (o := o) hp17)
    have st18 := fun o => Same.trans (st17 _) (Same.new (o := o) hp17)
    tm_at "w"
    refine .inl ⟨_, _, by tm_at "heap", by tm_at "heap", by simp only [List.length_append, List.length_cons, List.length_nil]; decide, fun p18 hp18 => ?_⟩
    have he19 := fun o => (he18 _).same (Same.new (o := o) hp18)
    have st19 := fun o => Same.trans (st18 _) (Same.new (o := o) hp18)
    tm_at "w"
    refine ⟨C, fI, fs, _, (he19 _), ox, k1, _, rfl, ?_⟩
    tm_at "w"
    refine ⟨C, fI, fs, _, (he19 _), ox, k2, _, rfl, ?_⟩
    tm_at "w"
    refine ⟨by show 2 ≤ sizeLine; decide, fun p19 hp19 => ?_⟩
    have he20 := fun o => (he19 _).same (Same.new (o := o) hp19)
    have st20 := fun o => Same.trans (st19 _) (Same.new (o := o) hp19)
    tm_at "w"
    refine .inl ⟨_, _, by tm_at "heap", by tm_at "heap", by simp only [List.length_append, List.length_cons, List.length_nil]; decide, fun p20 hp20 => ?_⟩
    have he21 := fun o => (he20 _).same (Same.new (o := o) hp20)
    have st21 := fun o => Same.trans (st20 _) (Same.new (o := o) hp20)
    exact q _ _ (st21 _) upd_same
end
end Toy

namespace Toy
open PySem L2
local macro_rules | `(tactic| tm_at "w") => `(tactic| (conv => whnf))
local macro_rules | `(tactic| tm_at "fr") => `(tactic| first | assumption | exact upd_none (by assumption) | exact upd_none (upd_none (by assumption)) | exact upd_none (upd_none (upd_none (by assumption))) | exact upd_none (upd_none (upd_none (upd_none (by assumption)))))
local macro_rules | `(tactic| tm_at "ne") => `(tactic| first | assumption | (apply Ne.symm; assumption) | exact upd_none_ne (by assumption) | exact (upd_none_ne (by assumption)).symm | exact upd_none_ne (upd_none (by assumption)) | exact (upd_none_ne (upd_none (by assumption))).symm | exact upd_none_ne (upd_none (upd_none (by assumption))) | exact (upd_none_ne (upd_none (upd_none (by assumption)))).symm)
local macro_rules | `(tactic| tm_at "heap") => `(tactic| first | assumption | exact upd_same | (refine upd_new ?_ (by tm_at "fr"); tm_at "heap") | (refine upd_oth (by tm_at "ne") ?_; tm_at "heap") | (refine SameB.get (by assumption) (by tm_at "ne") ?_; tm_at "heap") | (refine Same.get (by assumption) ?_; tm_at "heap"))
local macro_rules | `(tactic| tm_at "sq") => `(tactic| first | assumption | exact SqL.of (by tm_at "heap") | exact SqT.of (by tm_at "heap"))
local macro_rules | `(tactic| tm_at "ix") => `(tactic| (conv => whnf); first | refine ⟨_, _, .inl (by tm_at "sq"), rfl, ?_⟩ | refine ⟨_, _, .inr (by tm_at "sq"), rfl, ?_⟩)
local macro_rules | `(tactic| tm_at "sb") => `(tactic| first | assumption | exact SameB.refl | (refine SameB.ws ?_; tm_at "sb") | (refine SameB.wr ?_ (by tm_at "fr"); tm_at "sb") | (refine SameB.trans ?_ (by assumption); tm_at "sb"))
local macro_rules | `(tactic| tm_at "hs") => `(tactic| first | assumption | exact upd_same | (refine upd_new ?_ (by assumption); tm_at "hs") | (refine Same.get (by assumption) ?_; tm_at "hs"))
local macro_rules | `(tactic| tm_at "sm") => `(tactic| first | exact Same.refl _ | assumption | (refine Same.trans ?_ (Same.new (by assumption)); tm_at "sm") | (refine Same.trans ?_ (by assumption); tm_at "sm"))
/-! data that is compared -/
structure Okd (K : PySem.W.Frag) (H : Hp) (v : V) (d : PyData) : Prop where
  dp : Dp K H v d
  lay : d.canLay0 = true
  dep : d.depth ≤ 8
inductive OkAll (K : PySem.W.Frag) (H : Hp) : List V → List PyData → Prop
  | nil : OkAll K H [] []
  | cons {v : V} {vs : List V} {d : PyData} {ds : List PyData} : Okd K H v d → OkAll K H vs ds → OkAll K H (v :: vs) (d :: ds)
theorem okS {K : PySem.W.Frag} {H : Hp} {t : Str} (h : PyData.strOk t = true) : Okd K H (.str t) (.str t) := ⟨.str t, h, Nat.zero_le _⟩
theorem okI {K : PySem.W.Frag} {H : Hp} {i : Int} : Okd K H (.int i) (.int i) := ⟨.int i, rfl, Nat.zero_le _⟩
theorem okB {K : PySem.W.Frag} {H : Hp} {b : Bool} : Okd K H (.bl b) (.bool b) := ⟨.bl b, rfl, Nat.zero_le _⟩
theorem OkAll.dp {K : PySem.W.Frag} {H : Hp} {vs : List V} {ds : List PyData} (h : OkAll K H vs ds) : DpAll K H vs ds := by
  induction h with
  | nil => exact .nil
  | cons a _ ih => exact .cons a.dp ih
theorem OkAll.lay {K : PySem.W.Frag} {H : Hp} {vs : List V} {ds : List PyData} (h : OkAll K H vs ds) : PyData.canLayAll0 ds = true := by
  induction h with
  | nil => rfl
  | cons a _ ih => rw [PyData.canLayAll0, a.lay, ih]; rfl
theorem OkAll.dep {K : PySem.W.Frag} {H : Hp} {vs : List V} {ds : List PyData} {n : Nat} (h : OkAll K H vs ds) (hn : ∀ d ∈ ds, d.depth ≤ n) : PyData.depthAll ds ≤ n := by
  induction h with
  | nil => exact Nat.zero_le _
  | cons a _ ih =>
    rw [PyData.depthAll]
    exact Nat.max_le.mpr ⟨hn _ List.mem_cons_self, ih fun d hd => hn d (List.mem_cons_of_mem _ hd)⟩
theorem OkAll.dep8 {K : PySem.W.Frag} {H : Hp} {vs : List V} {ds : List PyData} (h : OkAll K H vs ds) : PyData.depthAll ds ≤ 8 := by
  induction h with
  | nil => exact Nat.zero_le _
  | cons a _ ih => rw [PyData.depthAll]; exact Nat.max_le.mpr ⟨a.dep, ih⟩
theorem okAll_strs {K : PySem.W.Frag} {H : Hp} : ∀ {ts : List Str}, (∀ t ∈ ts, PyData.strOk t = true) → OkAll K H (ts.map V.str) (ts.map PyData.str)
  | [], _ => .nil
  | t :: ts, h => .cons (okS (h t List.mem_cons_self)) (okAll_strs fun u hu => h u (List.mem_cons_of_mem _ hu))
theorem okAll_bls {K : PySem.W.Frag} {H : Hp} : ∀ {ts : List Bool}, OkAll K H (ts.map V.bl) (ts.map PyData.bool)
  | [] => .nil
  | t :: ts => .cons okB okAll_bls
theorem dep_strs (ts : List Str) : PyData.depthAll (ts.map PyData.str) = 0 := by
  induction ts with
  | nil => rfl
  | cons t ts ih => rw [List.map_cons, PyData.depthAll, ih]; rfl
theorem dep_bls (ts : List Bool) : PyData.depthAll (ts.map PyData.bool) = 0 := by
  induction ts with
  | nil => rfl
  | cons t ts ih => rw [List.map_cons, PyData.depthAll, ih]; rfl
theorem okT {K : PySem.W.Frag} {H : Hp} {p : Addr} {ts : List Str} (hp : SqT K H p (ts.map V.str)) (h : ∀ t ∈ ts, PyData.strOk t = true) : Okd K H (.ref p) (.tuple (ts.map PyData.str)) :=
  ⟨.tup hp (okAll_strs h).dp, (okAll_strs (K := K) (H := H) h).lay, by rw [PyData.depth, dep_strs]; decide⟩
theorem okLb {K : PySem.W.Frag} {H : Hp} {p : Addr} {ts : List Bool} (hp : SqL K H p (ts.map V.bl)) : Okd K H (.ref p) (.list (ts.map PyData.bool)) :=
  ⟨.lst hp okAll_bls.dp, (okAll_bls (K := K) (H := H)).lay, by rw [PyData.depth, dep_bls]; decide⟩
theorem eq_ok {K : PySem.W.Frag} {H : Hp} {Q : VK} {p q : Addr} {vs ws : List V} {ds : List PyData} (h1 : SqL K H p vs) (h2 : SqL K H q ws) (o1 : OkAll K H vs ds) (o2 : OkAll K H ws ds) (k : Q (.bl true) H) : rEqD K (.ref p) (.ref q) H Q := by
  have l : (PyData.list ds).canLay0 = true := o1.lay
  have s : SeqAt.shaped (.list ds) = true := by
    unfold SeqAt.shaped
    rw [l, decide_eq_true (show (PyData.list ds).depth ≤ 64 by rw [PyData.depth]; have := o1.dep8; omega)]; rfl
  exact ⟨_, _, .lst h1 o1.dp, .lst h2 o2.dp, s, s, by rw [SeqAt.eqv_refl _ l]; exact k⟩
theorem ne_ok {K : PySem.W.Frag} {H : Hp} {Q : VK} {p q : Addr} {vs ws : List V} {ds : List PyData} (h1 : SqL K H p vs) (h2 : SqL K H q ws) (o1 : OkAll K H vs ds) (o2 : OkAll K H ws ds) (k : Q (.bl false) H) : rNeD K (.ref p) (.ref q) H Q := by
  have l : (PyData.list ds).canLay0 = true := o1.lay
  have s : SeqAt.shaped (.list ds) = true := by
    unfold SeqAt.shaped
    rw [l, decide_eq_true (show (PyData.list ds).depth ≤ 64 by rw [PyData.depth]; have := o1.dep8; omega)]; rfl
  exact ⟨_, _, .lst h1 o1.dp, .lst h2 o2.dp, s, s, by rw [SeqAt.eqv_refl _ l]; exact k⟩
/-! the errors of a list -/
def ErrsAt (H : Hp) : List (Addr × List (Str × V)) → List V → Prop
  | [], es => es = []
  | (C, fs) :: ss, es => ∃ a r, es = .ref a :: r ∧ ErrAt H a C fs ∧ ErrsAt H ss r
theorem ErrsAt.same {H H' : Hp} (e : Same H H') : ∀ {ss : List (Addr × List (Str × V))} {es : List V}, ErrsAt H ss es → ErrsAt H' ss es
  | [], _, h => h
  | (C, fs) :: ss, es, h => by
    obtain ⟨a, r, h1, h2, h3⟩ := h
    exact ⟨a, r, h1, h2.same e, ErrsAt.same e h3⟩
theorem ErrsAt.app {H : Hp} : ∀ {ss tt : List (Addr × List (Str × V))} {es us : List V}, ErrsAt H ss es → ErrsAt H tt us → ErrsAt H (ss ++ tt) (es ++ us)
  | [], _, _, _, h, g => by cases (show _ = [] from h); exact g
  | (C, fs) :: ss, tt, es, us, h, g => by
    obtain ⟨a, r, rfl, h2, h3⟩ := h
    exact ⟨a, r ++ us, rfl, h2, ErrsAt.app h3 g⟩
theorem lk0 {f : Str} {x : V} {r : List (Str × V)} : ((f, x) :: r).lookup f = some x := by rw [List.lookup_cons, beq_self_eq_true]
theorem lk1 {f g : Str} {x y : V} {r : List (Str × V)} (h : (g == f) = false) : ((f, x) :: (g, y) :: r).lookup g = some y := by rw [List.lookup_cons, h, List.lookup_cons, beq_self_eq_true]
def specE (ad : Ad) (s o : Int) (t m : Str) (l : Addr) : List (Addr × List (Str × V)) := [(ad.c_BadName, [("name", .str t)]), (ad.c_BadPath, [("path", .str t)]), (ad.c_NoFile, [("path", .str m)]), (ad.c_BadHunk, [("index", .int s)]), (ad.c_BadPatch, [("path", .str t)]), (ad.c_Refused, [("index", .int o), ("path", .str m)]), (ad.c_Entangled, [("path", .str t)]), (ad.c_BadSeries, [("index", .int s)]), (ad.c_Stopped, [("index", .int o)]), (ad.c_BadRecipe, [("index", .int s)]), (ad.c_Outside, [("read", .str m), ("output", .str t)]), (ad.c_Absent, [("read", .str t), ("output", .str m)]), (ad.c_BadArchive, [("name", .str t)]), (ad.c_NoPlan, [("ring", .ref l)]), (ad.c_Unrecorded, []), (ad.c_Unchanged, []), (ad.c_TooFew, [("count", .int o)]), (ad.c_UnknownField, [("name", .str m)])]
def specL (ad : Ad) (s o : Int) (t m : Str) : List (Addr × List (Str × V)) := [(ad.c_NoOrder, []), (ad.c_NoPatch, [("name", .str t)]), (ad.c_Clashed, [("theirs", .int o), ("ours", .int s)]), (ad.c_BadChoice, [("name", .str m)]), (ad.c_BadJob, [("index", .int s)]), (ad.c_BadPlan, []), (ad.c_NoTurn, [("count", .int o)]), (ad.c_NotClosed, [("index", .int s)]), (ad.c_BadRelease, [("number", .int s), ("name", .str t)]), (ad.c_NoRelease, [("number", .int o), ("name", .str m)]), (ad.c_NoChoice, []), (ad.c_BadSystem, [("name", .str t)]), (ad.c_Occupied, [("path", .str m)]), (ad.c_NotWaiting, [("path", .str t)]), (ad.c_BadRecord, [("name", .str m)]), (ad.c_Down, [])]
def SmI (n : Int) : Prop := (0 ≤ n ∧ n < 10 ^ 18) ∨ (-60 ≤ n ∧ n ≤ 0)
def spKept (K : PySem.W.Frag) (ad : Ad) : Sp := fun vs H Q _ => ∃ p s o t m l es k, vs = [.ref p, .int s, .int o, .str t, .str m, .ref l] ∧ PyData.strOk t = true ∧ PyData.strOk m = true ∧ SqT K H l ((List.replicate k t).map V.str) ∧ H p = some (.lst es) ∧ ErrsAt H (specE ad s o t m l) es ∧ ∀ H', Same H H' → Q (.bl true) H'
def spLater (K : PySem.W.Frag) (ad : Ad) : Sp := fun vs H Q _ => ∃ p s o t m es, vs = [.ref p, .int s, .int o, .str t, .str m] ∧ PyData.strOk t = true ∧ PyData.strOk m = true ∧ H p = some (.lst es) ∧ ErrsAt H (specL ad s o t m) es ∧ ∀ H', Same H H' → Q (.bl true) H'
def spNamed (K : PySem.W.Frag) : Sp := fun vs H Q _ => ∃ s o t m l k, vs = [.int s, .int o, .str t, .str m, .ref l] ∧ PyData.strOk t = true ∧ PyData.strOk m = true ∧ SmI s ∧ SmI o ∧ t.length ≤ 60 ∧ m.length ≤ 60 ∧ k ≤ 100 ∧ SqT K H l ((List.replicate k t).map V.str) ∧ ∀ H', Same H H' → Q (.bl true) H'
def spLaterN : Sp := fun vs H Q _ => ∃ s o t m, vs = [.int s, .int o, .str t, .str m] ∧ PyData.strOk t = true ∧ PyData.strOk m = true ∧ SmI s ∧ SmI o ∧ t.length ≤ 60 ∧ m.length ≤ 60 ∧ ∀ H', Same H H' → Q (.bl true) H'
section
variable {P : Program} {w : World} {K : PySem.W.Frag} {mg : Str → Option Value} {base : Heap} {ad : Ad}
theorem ok_law_kept (T : Txt P K mg ad) : FnOk P w K mg base CX0 2 ad.a_law_kept ad.d_law_kept ["_law_errors", "_law_some", "_law_other", "_law_text", "_law_more", "_law_loop"] (spKept K ad) := by
  refine T.f_law_kept.ok sc_law_kept (fun vs H Q E h => ?_) (fun cdv A outer s0 H vs Q E hr h => ?_)
  · obtain ⟨p, s, o, t, m, l, es, k, rfl, _⟩ := h; rfl
  · obtain ⟨p, s, o, t, m, l, es, k, rfl, ht, hm, hl, hp, hE, q⟩ := h
    obtain ⟨a0, _, rfl, e0, a1, _, rfl, e1, a2, _, rfl, e2, a3, _, rfl, e3, a4, _, rfl, e4, a5, _, rfl, e5, a6, _, rfl, e6, a7, _, rfl, e7, a8, _, rfl, e8, a9, _, rfl, e9, a10, _, rfl, e10, a11, _, rfl, e11, a12, _, rfl, e12, a13, _, rfl, e13, a14, _, rfl, e14, a15, _, rfl, e15, a16, _, rfl, e16, a17, _, rfl, e17, rfl⟩ := hE
    refine ⟨_, pss_cons (ps_set (i := 6) sc_law_kept.nd rfl (by first | exact Or.inl rfl | exact Or.inr rfl) (pe_lst (pa_cons (ce_fldX (K := K) (pe_ix (ic_seq (K := K)) (cv 0) pe_int (fun _ _ => rfl)) rfl) (pa_cons (ce_fldX (K := K) (pe_ix (ic_seq (K := K)) (cv 0) pe_int (fun _ _ => rfl)) rfl) (pa_cons (ce_fldX (K := K) (pe_ix (ic_seq (K := K)) (cv 0) pe_int (fun _ _ => rfl)) rfl) (pa_cons (ce_fldX (K := K) (pe_ix (ic_seq (K := K)) (cv 0) pe_int (fun _ _ => rfl)) rfl) (pa_cons (ce_fldX (K := K) (pe_ix (ic_seq (K := K)) (cv 0) pe_int (fun _ _ => rfl)) rfl) pa_nil)))))))
      (pss_cons (ps_set (i := 6) sc_law_kept.nd rfl (by first | exact Or.inl rfl | exact Or.inr rfl) (pe_op (oc_add (K := K)) (cv 6) (pe_lst (pa_cons (ce_fldX (K := K) (pe_ix (ic_seq (K := K)) (cv 0) pe_int (fun _ _ => rfl)) rfl) (pa_cons (ce_fldX (K := K) (pe_ix (ic_seq (K := K)) (cv 0) pe_int (fun _ _ => rfl)) rfl) (pa_cons (ce_fldX (K := K) (pe_ix (ic_seq (K := K)) (cv 0) pe_int (fun _ _ => rfl)) rfl) (pa_cons (ce_fldX (K := K) (pe_ix (ic_seq (K := K)) (cv 0) pe_int (fun _ _ => rfl)) rfl) (pa_cons (ce_fldX (K := K) (pe_ix (ic_seq (K := K)) (cv 0) pe_int (fun _ _ => rfl)) rfl) pa_nil))))))))
      (pss_cons (ps_set (i := 6) sc_law_kept.nd rfl (by first | exact Or.inl rfl | exact Or.inr rfl) (pe_op (oc_add (K := K)) (cv 6) (pe_lst (pa_cons (ce_fldX (K := K) (pe_ix (ic_seq (K := K)) (cv 0) pe_int (fun _ _ => rfl)) rfl) (pa_cons (ce_fldX (K := K) (pe_ix (ic_seq (K := K)) (cv 0) pe_int (fun _ _ => rfl)) rfl) (pa_cons (ce_fldX (K := K) (pe_ix (ic_seq (K := K)) (cv 0) pe_int (fun _ _ => rfl)) rfl) (pa_cons (ce_fldX (K := K) (pe_ix (ic_seq (K := K)) (cv 0) pe_int (fun _ _ => rfl)) rfl) (pa_cons (ce_fldX (K := K) (pe_ix (ic_seq (K := K)) (cv 0) pe_int (fun _ _ => rfl)) rfl) pa_nil))))))))
      (pss_cons (ps_set (i := 6) sc_law_kept.nd rfl (by first | exact Or.inl rfl | exact Or.inr rfl) (pe_op (oc_add (K := K)) (cv 6) (pe_lst (pa_cons (ce_fldX (K := K) (pe_ix (ic_seq (K := K)) (cv 0) pe_int (fun _ _ => rfl)) rfl) (pa_cons (ce_fldX (K := K) (pe_ix (ic_seq (K := K)) (cv 0) pe_int (fun _ _ => rfl)) rfl) (pa_cons (ce_fldX (K := K) (pe_ix (ic_seq (K := K)) (cv 0) pe_int (fun _ _ => rfl)) rfl) (pa_cons (ce_fldX (K := K) (pe_ix (ic_seq (K := K)) (cv 0) pe_int (fun _ _ => rfl)) rfl) pa_nil)))))))
      (pss_cons (ps_set (i := 7) sc_law_kept.nd rfl (by first | exact Or.inl rfl | exact Or.inr rfl) (pe_lst (pa_cons (cv 3) (pa_cons (cv 3) (pa_cons (cv 4) (pa_cons (cv 1) (pa_cons (cv 3) (pa_cons (cv 4) (pa_cons (cv 2) (pa_cons (cv 3) (pa_cons (cv 1) (pa_cons (cv 2) (pa_cons (cv 1) (pa_cons (cv 3) (pa_cons (cv 4) (pa_cons (cv 4) (pa_cons (cv 3) pa_nil)))))))))))))))))
      (pss_one (ps_ret (pe_cmpR (oc_eq (K := K) hr.units) (cv 6) (pe_op (oc_add (K := K)) (cv 7) (pe_lst (pa_cons (cv 3) (pa_cons (cv 5) (pa_cons (cv 2) (pa_cons (cv 4) pa_nil)))))) (nomark _)))))))), ?_⟩
    tm_at "w"
    refine ⟨_, _, .inl (SqL.of ((Same.refl H).get hp)), rfl, _, _, _, _, e0.same (Same.refl H), T.ox_BadName, T.na_BadName_name, lk0, ?_⟩
    tm_at "w"
    refine ⟨_, _, .inl (SqL.of ((Same.refl H).get hp)), rfl, _, _, _, _, e1.same (Same.refl H), T.ox_BadPath, T.na_BadPath_path, lk0, ?_⟩
    tm_at "w"
    refine ⟨_, _, .inl (SqL.of ((Same.refl H).get hp)), rfl, _, _, _, _, e2.same (Same.refl H), T.ox_NoFile, T.na_NoFile_path, lk0, ?_⟩
    tm_at "w"
    refine ⟨_, _, .inl (SqL.of ((Same.refl H).get hp)), rfl, _, _, _, _, e3.same (Same.refl H), T.ox_BadHunk, T.na_BadHunk_index, lk0, ?_⟩
    tm_at "w"
    refine ⟨_, _, .inl (SqL.of ((Same.refl H).get hp)), rfl, _, _, _, _, e4.same (Same.refl H), T.ox_BadPatch, T.na_BadPatch_path, lk0, ?_⟩
    tm_at "w"
    refine ⟨by show 5 ≤ sizeLine; decide, fun p0 hp0 => ?_⟩
    have st1 := fun o => Same.trans (Same.refl H) (Same.new (o := o) hp0)
    tm_at "w"
    refine ⟨_, _, .inl (SqL.of ((st1 _).get hp)), rfl, _, _, _, _, e5.same (st1 _), T.ox_Refused, T.na_Refused_path, (lk1 (by decide +kernel)), ?_⟩
    tm_at "w"
    refine ⟨_, _, .inl (SqL.of ((st1 _).get hp)), rfl, _, _, _, _, e5.same (st1 _), T.ox_Refused, T.na_Refused_index, lk0, ?_⟩
    tm_at "w"
    refine ⟨_, _, .inl (SqL.of ((st1 _).get hp)), rfl, _, _, _, _, e6.same (st1 _), T.ox_Entangled, T.na_Entangled_path, lk0, ?_⟩
    tm_at "w"
    refine ⟨_, _, .inl (SqL.of ((st1 _).get hp)), rfl, _, _, _, _, e7.same (st1 _), T.ox_BadSeries, T.na_BadSeries_index, lk0, ?_⟩
    tm_at "w"
    refine ⟨_, _, .inl (SqL.of ((st1 _).get hp)), rfl, _, _, _, _, e8.same (st1 _), T.ox_Stopped, T.na_Stopped_index, lk0, ?_⟩
    tm_at "w"
    refine ⟨by show 5 ≤ sizeLine; decide, fun p1 hp1 => ?_⟩
    have st2 := fun o => Same.trans (st1 _) (Same.new (o := o) hp1)
    tm_at "w"
    refine .inl ⟨_, _, ((Same.new hp1).get upd_same), upd_same, by simp only [List.length_append, List.length_cons, List.length_nil]; decide, fun p2 hp2 => ?_⟩
    have st3 := fun o => Same.trans (st2 _) (Same.new (o := o) hp2)
    tm_at "w"
    refine ⟨_, _, .inl (SqL.of ((st3 _).get hp)), rfl, _, _, _, _, e9.same (st3 _), T.ox_BadRecipe, T.na_BadRecipe_index, lk0, ?_⟩
    tm_at "w"
    refine ⟨_, _, .inl (SqL.of ((st3 _).get hp)), rfl, _, _, _, _, e10.same (st3 _), T.ox_Outside, T.na_Outside_output, (lk1 (by decide +kernel)), ?_⟩
    tm_at "w"
    refine ⟨_, _, .inl (SqL.of ((st3 _).get hp)), rfl, _, _, _, _, e10.same (st3 _), T.ox_Outside, T.na_Outside_read, lk0, ?_⟩
    tm_at "w"
    refine ⟨_, _, .inl (SqL.of ((st3 _).get hp)), rfl, _, _, _, _, e11.same (st3 _), T.ox_Absent, T.na_Absent_output, (lk1 (by decide +kernel)), ?_⟩
    tm_at "w"
    refine ⟨_, _, .inl (SqL.of ((st3 _).get hp)), rfl, _, _, _, _, e11.same (st3 _), T.ox_Absent, T.na_Absent_read, lk0, ?_⟩
    tm_at "w"
    refine ⟨by show 5 ≤ sizeLine; decide, fun p3 hp3 => ?_⟩
    have st4 := fun o => Same.trans (st3 _) (Same.new (o := o) hp3)
    tm_at "w"
    refine .inl ⟨_, _, ((Same.new hp3).get upd_same), upd_same, by simp only [List.length_append, List.length_cons, List.length_nil]; decide, fun p4 hp4 => ?_⟩
    have st5 := fun o => Same.trans (st4 _) (Same.new (o := o) hp4)
    tm_at "w"
    refine ⟨_, _, .inl (SqL.of ((st5 _).get hp)), rfl, _, _, _, _, e12.same (st5 _), T.ox_BadArchive, T.na_BadArchive_name, lk0, ?_⟩
    tm_at "w"
    refine ⟨_, _, .inl (SqL.of ((st5 _).get hp)), rfl, _, _, _, _, e13.same (st5 _), T.ox_NoPlan, T.na_NoPlan_ring, lk0, ?_⟩
    tm_at "w"
    refine ⟨_, _, .inl (SqL.of ((st5 _).get hp)), rfl, _, _, _, _, e16.same (st5 _), T.ox_TooFew, T.na_TooFew_count, lk0, ?_⟩
    tm_at "w"
    refine ⟨_, _, .inl (SqL.of ((st5 _).get hp)), rfl, _, _, _, _, e17.same (st5 _), T.ox_UnknownField, T.na_UnknownField_name, lk0, ?_⟩
    tm_at "w"
    refine ⟨by show 4 ≤ sizeLine; decide, fun p5 hp5 => ?_⟩
    have st6 := fun o => Same.trans (st5 _) (Same.new (o := o) hp5)
    tm_at "w"
    refine .inl ⟨_, _, ((Same.new hp5).get upd_same), upd_same, by simp only [List.length_append, List.length_cons, List.length_nil]; decide, fun p6 hp6 => ?_⟩
    have st7 := fun o => Same.trans (st6 _) (Same.new (o := o) hp6)
    tm_at "w"
    refine ⟨by show 15 ≤ sizeLine; decide, fun p7 hp7 => ?_⟩
    have st8 := fun o => Same.trans (st7 _) (Same.new (o := o) hp7)
    tm_at "w"
    refine ⟨by show 4 ≤ sizeLine; decide, fun p8 hp8 => ?_⟩
    have st9 := fun o => Same.trans (st8 _) (Same.new (o := o) hp8)
    tm_at "w"
    refine .inl ⟨_, _, ((Same.new hp8).get upd_same), upd_same, by simp only [List.length_append, List.length_cons, List.length_nil]; decide, fun p9 hp9 => ?_⟩
    have st10 := fun o => Same.trans (st9 _) (Same.new (o := o) hp9)
    tm_at "w"
    refine .inr (eq_ok (SqL.of ((Same.trans (Same.trans (Same.new hp7) (Same.new hp8)) (Same.new hp9)).get upd_same)) (SqL.of upd_same) (.cons (okS ht) (.cons (okS ht) (.cons (okS hm) (.cons okI (.cons (okS ht) (.cons (okS hm) (.cons okI (.cons (okS ht) (.cons okI (.cons okI (.cons okI (.cons (okS ht) (.cons (okS hm) (.cons (okS hm) (.cons (okS ht) (.cons (okS ht) (.cons (okT ((st10 _).seqT hl) fun u hu => by rw [(List.mem_replicate.mp hu).2]; exact ht) (.cons okI (.cons (okS hm) .nil))))))))))))))))))) (.cons (okS ht) (.cons (okS ht) (.cons (okS hm) (.cons okI (.cons (okS ht) (.cons (okS hm) (.cons okI (.cons (okS ht) (.cons okI (.cons okI (.cons okI (.cons (okS ht) (.cons (okS hm) (.cons (okS hm) (.cons (okS ht) (.cons (okS ht) (.cons (okT ((st10 _).seqT hl) fun u hu => by rw [(List.mem_replicate.mp hu).2]; exact ht) (.cons okI (.cons (okS hm) .nil))))))))))))))))))) ?_)
    exact q _ (st10 _)
theorem ok_law_later_kept (T : Txt P K mg ad) : FnOk P w K mg base CX0 2 ad.a_law_later_kept ad.d_law_later_kept ["_law_errors", "_law_some", "_law_other", "_law_text", "_law_more"] (spLater K ad) := by
  refine T.f_law_later_kept.ok sc_law_later_kept (fun vs H Q E h => ?_) (fun cdv A outer s0 H vs Q E hr h => ?_)
  · obtain ⟨p, s, o, t, m, es, rfl, _⟩ := h; rfl
  · obtain ⟨p, s, o, t, m, es, rfl, ht, hm, hp, hE, q⟩ := h
    obtain ⟨a0, _, rfl, e0, a1, _, rfl, e1, a2, _, rfl, e2, a3, _, rfl, e3, a4, _, rfl, e4, a5, _, rfl, e5, a6, _, rfl, e6, a7, _, rfl, e7, a8, _, rfl, e8, a9, _, rfl, e9, a10, _, rfl, e10, a11, _, rfl, e11, a12, _, rfl, e12, a13, _, rfl, e13, a14, _, rfl, e14, a15, _, rfl, e15, rfl⟩ := hE
    refine ⟨_, pss_cons (ps_set (i := 5) sc_law_later_kept.nd rfl (by first | exact Or.inl rfl | exact Or.inr rfl) (pe_lst (pa_cons (ce_fldX (K := K) (pe_ix (ic_seq (K := K)) (cv 0) pe_int (fun _ _ => rfl)) rfl) (pa_cons (ce_fldX (K := K) (pe_ix (ic_seq (K := K)) (cv 0) pe_int (fun _ _ => rfl)) rfl) (pa_cons (ce_fldX (K := K) (pe_ix (ic_seq (K := K)) (cv 0) pe_int (fun _ _ => rfl)) rfl) (pa_cons (ce_fldX (K := K) (pe_ix (ic_seq (K := K)) (cv 0) pe_int (fun _ _ => rfl)) rfl) (pa_cons (ce_fldX (K := K) (pe_ix (ic_seq (K := K)) (cv 0) pe_int (fun _ _ => rfl)) rfl) (pa_cons (ce_fldX (K := K) (pe_ix (ic_seq (K := K)) (cv 0) pe_int (fun _ _ => rfl)) rfl) pa_nil))))))))
      (pss_cons (ps_set (i := 5) sc_law_later_kept.nd rfl (by first | exact Or.inl rfl | exact Or.inr rfl) (pe_op (oc_add (K := K)) (cv 5) (pe_lst (pa_cons (ce_fldX (K := K) (pe_ix (ic_seq (K := K)) (cv 0) pe_int (fun _ _ => rfl)) rfl) (pa_cons (ce_fldX (K := K) (pe_ix (ic_seq (K := K)) (cv 0) pe_int (fun _ _ => rfl)) rfl) (pa_cons (ce_fldX (K := K) (pe_ix (ic_seq (K := K)) (cv 0) pe_int (fun _ _ => rfl)) rfl) (pa_cons (ce_fldX (K := K) (pe_ix (ic_seq (K := K)) (cv 0) pe_int (fun _ _ => rfl)) rfl) (pa_cons (ce_fldX (K := K) (pe_ix (ic_seq (K := K)) (cv 0) pe_int (fun _ _ => rfl)) rfl) pa_nil))))))))
      (pss_cons (ps_set (i := 5) sc_law_later_kept.nd rfl (by first | exact Or.inl rfl | exact Or.inr rfl) (pe_op (oc_add (K := K)) (cv 5) (pe_lst (pa_cons (ce_fldX (K := K) (pe_ix (ic_seq (K := K)) (cv 0) pe_int (fun _ _ => rfl)) rfl) (pa_cons (ce_fldX (K := K) (pe_ix (ic_seq (K := K)) (cv 0) pe_int (fun _ _ => rfl)) rfl) (pa_cons (ce_fldX (K := K) (pe_ix (ic_seq (K := K)) (cv 0) pe_int (fun _ _ => rfl)) rfl) (pa_cons (ce_fldX (K := K) (pe_ix (ic_seq (K := K)) (cv 0) pe_int (fun _ _ => rfl)) rfl) pa_nil)))))))
      (pss_cons (ps_set (i := 6) sc_law_later_kept.nd rfl (by first | exact Or.inl rfl | exact Or.inr rfl) (pe_lst (pa_cons (cv 3) (pa_cons (cv 1) (pa_cons (cv 2) (pa_cons (cv 4) (pa_cons (cv 1) (pa_cons (cv 2) (pa_cons (cv 1) (pa_cons (cv 3) (pa_cons (cv 1) (pa_cons (cv 4) (pa_cons (cv 2) (pa_cons (cv 3) (pa_cons (cv 4) (pa_cons (cv 3) (pa_cons (cv 4) pa_nil)))))))))))))))))
      (pss_one (ps_ret (pe_cmpR (oc_eq (K := K) hr.units) (cv 5) (cv 6) (nomark _))))))), ?_⟩
    tm_at "w"
    refine ⟨_, _, .inl (SqL.of ((Same.refl H).get hp)), rfl, _, _, _, _, e1.same (Same.refl H), T.ox_NoPatch, T.na_NoPatch_name, lk0, ?_⟩
    tm_at "w"
    refine ⟨_, _, .inl (SqL.of ((Same.refl H).get hp)), rfl, _, _, _, _, e2.same (Same.refl H), T.ox_Clashed, T.na_Clashed_ours, (lk1 (by decide +kernel)), ?_⟩
    tm_at "w"
    refine ⟨_, _, .inl (SqL.of ((Same.refl H).get hp)), rfl, _, _, _, _, e2.same (Same.refl H), T.ox_Clashed, T.na_Clashed_theirs, lk0, ?_⟩
    tm_at "w"
    refine ⟨_, _, .inl (SqL.of ((Same.refl H).get hp)), rfl, _, _, _, _, e3.same (Same.refl H), T.ox_BadChoice, T.na_BadChoice_name, lk0, ?_⟩
    tm_at "w"
    refine ⟨_, _, .inl (SqL.of ((Same.refl H).get hp)), rfl, _, _, _, _, e4.same (Same.refl H), T.ox_BadJob, T.na_BadJob_index, lk0, ?_⟩
    tm_at "w"
    refine ⟨_, _, .inl (SqL.of ((Same.refl H).get hp)), rfl, _, _, _, _, e6.same (Same.refl H), T.ox_NoTurn, T.na_NoTurn_count, lk0, ?_⟩
    tm_at "w"
    refine ⟨by show 6 ≤ sizeLine; decide, fun p0 hp0 => ?_⟩
    have st1 := fun o => Same.trans (Same.refl H) (Same.new (o := o) hp0)
    tm_at "w"
    refine ⟨_, _, .inl (SqL.of ((st1 _).get hp)), rfl, _, _, _, _, e7.same (st1 _), T.ox_NotClosed, T.na_NotClosed_index, lk0, ?_⟩
    tm_at "w"
    refine ⟨_, _, .inl (SqL.of ((st1 _).get hp)), rfl, _, _, _, _, e8.same (st1 _), T.ox_BadRelease, T.na_BadRelease_name, (lk1 (by decide +kernel)), ?_⟩
    tm_at "w"
    refine ⟨_, _, .inl (SqL.of ((st1 _).get hp)), rfl, _, _, _, _, e8.same (st1 _), T.ox_BadRelease, T.na_BadRelease_number, lk0, ?_⟩
    tm_at "w"
    refine ⟨_, _, .inl (SqL.of ((st1 _).get hp)), rfl, _, _, _, _, e9.same (st1 _), T.ox_NoRelease, T.na_NoRelease_name, (lk1 (by decide +kernel)), ?_⟩
    tm_at "w"
    refine ⟨_, _, .inl (SqL.of ((st1 _).get hp)), rfl, _, _, _, _, e9.same (st1 _), T.ox_NoRelease, T.na_NoRelease_number, lk0, ?_⟩
    tm_at "w"
    refine ⟨by show 5 ≤ sizeLine; decide, fun p1 hp1 => ?_⟩
    have st2 := fun o => Same.trans (st1 _) (Same.new (o := o) hp1)
    tm_at "w"
    refine .inl ⟨_, _, ((Same.new hp1).get upd_same), upd_same, by simp only [List.length_append, List.length_cons, List.length_nil]; decide, fun p2 hp2 => ?_⟩
    have st3 := fun o => Same.trans (st2 _) (Same.new (o := o) hp2)
    tm_at "w"
    refine ⟨_, _, .inl (SqL.of ((st3 _).get hp)), rfl, _, _, _, _, e11.same (st3 _), T.ox_BadSystem, T.na_BadSystem_name, lk0, ?_⟩
    tm_at "w"
    refine ⟨_, _, .inl (SqL.of ((st3 _).get hp)), rfl, _, _, _, _, e12.same (st3 _), T.ox_Occupied, T.na_Occupied_path, lk0, ?_⟩
    tm_at "w"
    refine ⟨_, _, .inl (SqL.of ((st3 _).get hp)), rfl, _, _, _, _, e13.same (st3 _), T.ox_NotWaiting, T.na_NotWaiting_path, lk0, ?_⟩
    tm_at "w"
    refine ⟨_, _, .inl (SqL.of ((st3 _).get hp)), rfl, _, _, _, _, e14.same (st3 _), T.ox_BadRecord, T.na_BadRecord_name, lk0, ?_⟩
    tm_at "w"
    refine ⟨by show 4 ≤ sizeLine; decide, fun p3 hp3 => ?_⟩
    have st4 := fun o => Same.trans (st3 _) (Same.new (o := o) hp3)
    tm_at "w"
    refine .inl ⟨_, _, ((Same.new hp3).get upd_same), upd_same, by simp only [List.length_append, List.length_cons, List.length_nil]; decide, fun p4 hp4 => ?_⟩
    have st5 := fun o => Same.trans (st4 _) (Same.new (o := o) hp4)
    tm_at "w"
    refine ⟨by show 15 ≤ sizeLine; decide, fun p5 hp5 => ?_⟩
    have st6 := fun o => Same.trans (st5 _) (Same.new (o := o) hp5)
    tm_at "w"
    refine .inr (eq_ok (SqL.of ((Same.new hp5).get upd_same)) (SqL.of upd_same) (.cons (okS ht) (.cons okI (.cons okI (.cons (okS hm) (.cons okI (.cons okI (.cons okI (.cons (okS ht) (.cons okI (.cons (okS hm) (.cons okI (.cons (okS ht) (.cons (okS hm) (.cons (okS ht) (.cons (okS hm) .nil))))))))))))))) (.cons (okS ht) (.cons okI (.cons okI (.cons (okS hm) (.cons okI (.cons okI (.cons okI (.cons (okS ht) (.cons okI (.cons (okS hm) (.cons okI (.cons (okS ht) (.cons (okS hm) (.cons (okS ht) (.cons (okS hm) .nil))))))))))))))) ?_)
    exact q _ (st6 _)
theorem ok_law_named (T : Txt P K mg ad) : FnOk P w K mg base CX0 3 ad.a_law_named ad.d_law_named ["_law_some", "_law_other", "_law_text", "_law_more", "_law_loop"] (spNamed K) := by
  refine T.f_law_named.ok sc_law_named (fun vs H Q E h => ?_) (fun cdv A outer s0 H vs Q E hr h => ?_)
  · obtain ⟨s, o, t, m, l, k, rfl, _⟩ := h; rfl
  · obtain ⟨s, o, t, m, l, k, rfl, ht, hm, hs, ho, lt, lm, hk, hl, q⟩ := h
    refine ⟨_, pss_cons (ps_set (i := 5) sc_law_named.nd rfl (by first | exact Or.inl rfl | exact Or.inr rfl) (pe_lst (pa_cons (ce_fldX (K := K) (pe_mkX0 T.ox_BadName (ok_BadName_XinitX T) (hr.mono (by decide)) rfl T.mg_BadName T.kb_BadName_name pass0 (pk_cons (cv 2) pk_nil)) rfl) (pa_cons (ce_fldX (K := K) (pe_mkX0 T.ox_BadPath (ok_BadPath_XinitX T) (hr.mono (by decide)) rfl T.mg_BadPath T.kb_BadPath_path pass0 (pk_cons (cv 3) pk_nil)) rfl) (pa_cons (ce_fldX (K := K) (pe_mkX0 T.ox_NoFile (ok_NoFile_XinitX T) (hr.mono (by decide)) rfl T.mg_NoFile T.kb_NoFile_path pass0 (pk_cons (cv 2) pk_nil)) rfl) (pa_cons (ce_fldX (K := K) (pe_mkX0 T.ox_BadHunk (ok_BadHunk_XinitX T) (hr.mono (by decide)) rfl T.mg_BadHunk T.kb_BadHunk_index pass0 (pk_cons (cv 0) pk_nil)) rfl) pa_nil))))))
      (pss_cons (ps_set (i := 6) sc_law_named.nd rfl (by first | exact Or.inl rfl | exact Or.inr rfl) (pe_mkX0 T.ox_Refused (ok_Refused_XinitX T) (hr.mono (by decide)) rfl T.mg_Refused T.kb_Refused_path_index pass0 (pk_cons (cv 2) (pk_cons (cv 0) pk_nil))))
      (pss_cons (ps_set (i := 5) sc_law_named.nd rfl (by first | exact Or.inl rfl | exact Or.inr rfl) (pe_op (oc_add (K := K)) (cv 5) (pe_lst (pa_cons (ce_fldX (K := K) (pe_mkX0 T.ox_BadPatch (ok_BadPatch_XinitX T) (hr.mono (by decide)) rfl T.mg_BadPatch T.kb_BadPatch_path pass0 (pk_cons (cv 3) pk_nil)) rfl) (pa_cons (ce_fldX (K := K) (cv 6) rfl) (pa_cons (ce_fldX (K := K) (cv 6) rfl) (pa_cons (ce_fldX (K := K) (pe_mkX0 T.ox_Entangled (ok_Entangled_XinitX T) (hr.mono (by decide)) rfl T.mg_Entangled T.kb_Entangled_path pass0 (pk_cons (cv 3) pk_nil)) rfl) pa_nil)))))))
      (pss_cons (ps_set (i := 5) sc_law_named.nd rfl (by first | exact Or.inl rfl | exact Or.inr rfl) (pe_op (oc_add (K := K)) (cv 5) (pe_lst (pa_cons (ce_fldX (K := K) (pe_mkX0 T.ox_BadSeries (ok_BadSeries_XinitX T) (hr.mono (by decide)) rfl T.mg_BadSeries T.kb_BadSeries_index pass0 (pk_cons (cv 0) pk_nil)) rfl) (pa_cons (ce_fldX (K := K) (pe_mkX0 T.ox_Stopped (ok_Stopped_XinitX T) (hr.mono (by decide)) rfl T.mg_Stopped T.kb_Stopped_index pass0 (pk_cons (cv 1) pk_nil)) rfl) (pa_cons (ce_fldX (K := K) (pe_mkX0 T.ox_BadRecipe (ok_BadRecipe_XinitX T) (hr.mono (by decide)) rfl T.mg_BadRecipe T.kb_BadRecipe_index pass0 (pk_cons (cv 0) pk_nil)) rfl) pa_nil))))))
      (pss_cons (ps_par (i := 7) (j := 8) (by rfl) sc_law_named.nd rfl rfl (by decide) rfl rfl (pa_cons (pe_mkX0 T.ox_Outside (ok_Outside_XinitX T) (hr.mono (by decide)) rfl T.mg_Outside T.kb_Outside_output_read pass0 (pk_cons (cv 2) (pk_cons (cv 3) pk_nil))) (pa_cons (pe_mkX0 T.ox_Absent (ok_Absent_XinitX T) (hr.mono (by decide)) rfl T.mg_Absent T.kb_Absent_output_read pass0 (pk_cons (cv 3) (pk_cons (cv 2) pk_nil))) pa_nil)) (by rfl))
      (pss_cons (ps_set (i := 5) sc_law_named.nd rfl (by first | exact Or.inl rfl | exact Or.inr rfl) (pe_op (oc_add (K := K)) (cv 5) (pe_lst (pa_cons (ce_fldX (K := K) (cv 7) rfl) (pa_cons (ce_fldX (K := K) (cv 7) rfl) (pa_cons (ce_fldX (K := K) (cv 8) rfl) (pa_cons (ce_fldX (K := K) (cv 8) rfl) (pa_cons (ce_fldX (K := K) (pe_mkX0 T.ox_BadArchive (ok_BadArchive_XinitX T) (hr.mono (by decide)) rfl T.mg_BadArchive T.kb_BadArchive_name pass0 (pk_cons (cv 2) pk_nil)) rfl) pa_nil))))))))
      (pss_cons (ps_set (i := 5) sc_law_named.nd rfl (by first | exact Or.inl rfl | exact Or.inr rfl) (pe_op (oc_add (K := K)) (cv 5) (pe_lst (pa_cons (ce_fldX (K := K) (pe_mkX0 T.ox_NoPlan (ok_NoPlan_XinitX T) (hr.mono (by decide)) rfl T.mg_NoPlan T.kb_NoPlan_ring pass0 (pk_cons (cv 4) pk_nil)) rfl) (pa_cons (ce_fldX (K := K) (pe_mkX0 T.ox_TooFew (ok_TooFew_XinitX T) (hr.mono (by decide)) rfl T.mg_TooFew T.kb_TooFew_count pass0 (pk_cons (cv 0) pk_nil)) rfl) (pa_cons (ce_fldX (K := K) (pe_mkX0 T.ox_UnknownField (ok_UnknownField_XinitX T) (hr.mono (by decide)) rfl T.mg_UnknownField T.kb_UnknownField_name pass0 (pk_cons (cv 3) pk_nil)) rfl) pa_nil))))))
      (pss_cons (ps_set (i := 9) sc_law_named.nd rfl (by first | exact Or.inl rfl | exact Or.inr rfl) (pe_lst (pa_cons (cv 2) (pa_cons (cv 3) (pa_cons (cv 2) (pa_cons (cv 0) (pa_cons (cv 3) (pa_cons (cv 2) (pa_cons (cv 0) (pa_cons (cv 3) (pa_cons (cv 0) (pa_cons (cv 1) (pa_cons (cv 0) (pa_cons (cv 2) (pa_cons (cv 3) (pa_cons (cv 3) (pa_cons (cv 2) (pa_cons (cv 2) (pa_cons (cv 4) pa_nil)))))))))))))))))))
      (pss_one (ps_ret (pe_cmpR (oc_eq (K := K) hr.units) (cv 5) (pe_op (oc_add (K := K)) (cv 9) (pe_lst (pa_cons (cv 0) (pa_cons (cv 3) pa_nil)))) (nomark _))))))))))), ?_⟩
    tm_at "w"
    refine ⟨rfl, rfl, by decide, mk1 (show Fmt (.str t) from lt) fun a0 H1 sm0 e0 => ?_⟩
    have st1 := Same.trans (Same.refl H) sm0
    tm_at "w"
    refine ⟨_, _, _, _, e0, T.ox_BadName, T.na_BadName_name, lk0, ?_⟩
    tm_at "w"
    refine ⟨rfl, rfl, by decide, mk1 (show Fmt (.str m) from lm) fun a1 H2 sm1 e1 => ?_⟩
    have st2 := Same.trans st1 sm1
    tm_at "w"
    refine ⟨_, _, _, _, e1, T.ox_BadPath, T.na_BadPath_path, lk0, ?_⟩
    tm_at "w"
    refine ⟨rfl, rfl, by decide, mk1 (show Fmt (.str t) from lt) fun a2 H3 sm2 e2 => ?_⟩
    have st3 := Same.trans st2 sm2
    tm_at "w"
    refine ⟨_, _, _, _, e2, T.ox_NoFile, T.na_NoFile_path, lk0, ?_⟩
    tm_at "w"
    refine ⟨rfl, rfl, by decide, mk1 (show Fmt (.int s) from hs) fun a3 H4 sm3 e3 => ?_⟩
    have st4 := Same.trans st3 sm3
    tm_at "w"
    refine ⟨_, _, _, _, e3, T.ox_BadHunk, T.na_BadHunk_index, lk0, ?_⟩
    tm_at "w"
    refine ⟨by show 4 ≤ sizeLine; decide, fun p4 hp4 => ?_⟩
    have st5 := fun o => Same.trans st4 (Same.new (o := o) hp4)
    tm_at "w"
    refine ⟨rfl, rfl, by decide, mk2 (show Fmt (.str t) from lt) (show Fmt (.int s) from hs) fun a5 H6 sm5 e5 => ?_⟩
    have st6 := Same.trans (st5 _) sm5
    tm_at "w"
    refine ⟨rfl, rfl, by decide, mk1 (show Fmt (.str m) from lm) fun a6 H7 sm6 e6 => ?_⟩
    have st7 := Same.trans st6 sm6
    tm_at "w"
    refine ⟨_, _, _, _, e6, T.ox_BadPatch, T.na_BadPatch_path, lk0, ?_⟩
    tm_at "w"
    refine ⟨_, _, _, _, (ErrAt.same e5 sm6), T.ox_Refused, T.na_Refused_path, (lk1 (by decide +kernel)), ?_⟩
    tm_at "w"
    refine ⟨_, _, _, _, (ErrAt.same e5 sm6), T.ox_Refused, T.na_Refused_index, lk0, ?_⟩
    tm_at "w"
    refine ⟨rfl, rfl, by decide, mk1 (show Fmt (.str m) from lm) fun a7 H8 sm7 e7 => ?_⟩
    have st8 := Same.trans st7 sm7
    tm_at "w"
    refine ⟨_, _, _, _, e7, T.ox_Entangled, T.na_Entangled_path, lk0, ?_⟩
    tm_at "w"
    refine ⟨by show 4 ≤ sizeLine; decide, fun p8 hp8 => ?_⟩
    have st9 := fun o => Same.trans st8 (Same.new (o := o) hp8)
    tm_at "w"
    refine .inl ⟨_, _, ((Same.trans (Same.trans (Same.trans sm5 sm6) sm7) (Same.new hp8)).get upd_same), upd_same, by simp only [List.length_append, List.length_cons, List.length_nil]; decide, fun p9 hp9 => ?_⟩
    have st10 := fun o => Same.trans (st9 _) (Same.new (o := o) hp9)
    tm_at "w"
    refine ⟨rfl, rfl, by decide, mk1 (show Fmt (.int s) from hs) fun a10 H11 sm10 e10 => ?_⟩
    have st11 := Same.trans (st10 _) sm10
    tm_at "w"
    refine ⟨_, _, _, _, e10, T.ox_BadSeries, T.na_BadSeries_index, lk0, ?_⟩
    tm_at "w"
    refine ⟨rfl, rfl, by decide, mk1 (show Fmt (.int o) from ho) fun a11 H12 sm11 e11 => ?_⟩
    have st12 := Same.trans st11 sm11
    tm_at "w"
    refine ⟨_, _, _, _, e11, T.ox_Stopped, T.na_Stopped_index, lk0, ?_⟩
    tm_at "w"
    refine ⟨rfl, rfl, by decide, mk1 (show Fmt (.int s) from hs) fun a12 H13 sm12 e12 => ?_⟩
    have st13 := Same.trans st12 sm12
    tm_at "w"
    refine ⟨_, _, _, _, e12, T.ox_BadRecipe, T.na_BadRecipe_index, lk0, ?_⟩
    tm_at "w"
    refine ⟨by show 3 ≤ sizeLine; decide, fun p13 hp13 => ?_⟩
    have st14 := fun o => Same.trans st13 (Same.new (o := o) hp13)
    tm_at "w"
    refine .inl ⟨_, _, ((Same.trans (Same.trans (Same.trans sm10 sm11) sm12) (Same.new hp13)).get upd_same), upd_same, by simp only [List.length_append, List.length_cons, List.length_nil]; decide, fun p14 hp14 => ?_⟩
    have st15 := fun o => Same.trans (st14 _) (Same.new (o := o) hp14)
    tm_at "w"
    refine ⟨rfl, rfl, by decide, mk2 (show Fmt (.str t) from lt) (show Fmt (.str m) from lm) fun a15 H16 sm15 e15 => ?_⟩
    have st16 := Same.trans (st15 _) sm15
    tm_at "w"
    refine ⟨rfl, rfl, by decide, mk2 (show Fmt (.str m) from lm) (show Fmt (.str t) from lt) fun a16 H17 sm16 e16 => ?_⟩
    have st17 := Same.trans st16 sm16
    tm_at "w"
    refine ⟨_, _, rfl, ?_⟩
    tm_at "w"
    refine ⟨_, _, _, _, (ErrAt.same e15 sm16), T.ox_Outside, T.na_Outside_output, (lk1 (by decide +kernel)), ?_⟩
    tm_at "w"
    refine ⟨_, _, _, _, (ErrAt.same e15 sm16), T.ox_Outside, T.na_Outside_read, lk0, ?_⟩
    tm_at "w"
    refine ⟨_, _, _, _, (ErrAt.same e16 (Same.refl _)), T.ox_Absent, T.na_Absent_output, (lk1 (by decide +kernel)), ?_⟩
    tm_at "w"
    refine ⟨_, _, _, _, (ErrAt.same e16 (Same.refl _)), T.ox_Absent, T.na_Absent_read, lk0, ?_⟩
    tm_at "w"
    refine ⟨rfl, rfl, by decide, mk1 (show Fmt (.str t) from lt) fun a17 H18 sm17 e17 => ?_⟩
    have st18 := Same.trans st17 sm17
    tm_at "w"
    refine ⟨_, _, _, _, e17, T.ox_BadArchive, T.na_BadArchive_name, lk0, ?_⟩
    tm_at "w"
    refine ⟨by show 5 ≤ sizeLine; decide, fun p18 hp18 => ?_⟩
    have st19 := fun o => Same.trans st18 (Same.new (o := o) hp18)
    tm_at "w"
    refine .inl ⟨_, _, ((Same.trans (Same.trans (Same.trans sm15 sm16) sm17) (Same.new hp18)).get upd_same), upd_same, by simp only [List.length_append, List.length_cons, List.length_nil]; decide, fun p19 hp19 => ?_⟩
    have st20 := fun o => Same.trans (st19 _) (Same.new (o := o) hp19)
    tm_at "w"
    refine ⟨rfl, rfl, by decide, mkL ((st20 _).seqT hl) (by rw [List.length_map, List.length_replicate]; exact hk) fun a20 H21 sm20 e20 => ?_⟩
    have st21 := Same.trans (st20 _) sm20
    tm_at "w"
    refine ⟨_, _, _, _, e20, T.ox_NoPlan, T.na_NoPlan_ring, lk0, ?_⟩
    tm_at "w"
    refine ⟨rfl, rfl, by decide, mk1 (show Fmt (.int s) from hs) fun a21 H22 sm21 e21 => ?_⟩
    have st22 := Same.trans st21 sm21
    tm_at "w"
    refine ⟨_, _, _, _, e21, T.ox_TooFew, T.na_TooFew_count, lk0, ?_⟩
    tm_at "w"
    refine ⟨rfl, rfl, by decide, mk1 (show Fmt (.str m) from lm) fun a22 H23 sm22 e22 => ?_⟩
    have st23 := Same.trans st22 sm22
    tm_at "w"
    refine ⟨_, _, _, _, e22, T.ox_UnknownField, T.na_UnknownField_name, lk0, ?_⟩
    tm_at "w"
    refine ⟨by show 3 ≤ sizeLine; decide, fun p23 hp23 => ?_⟩
    have st24 := fun o => Same.trans st23 (Same.new (o := o) hp23)
    tm_at "w"
    refine .inl ⟨_, _, ((Same.trans (Same.trans (Same.trans sm20 sm21) sm22) (Same.new hp23)).get upd_same), upd_same, by simp only [List.length_append, List.length_cons, List.length_nil]; decide, fun p24 hp24 => ?_⟩
    have st25 := fun o => Same.trans (st24 _) (Same.new (o := o) hp24)
    tm_at "w"
    refine ⟨by show 17 ≤ sizeLine; decide, fun p25 hp25 => ?_⟩
    have st26 := fun o => Same.trans (st25 _) (Same.new (o := o) hp25)
    tm_at "w"
    refine ⟨by show 2 ≤ sizeLine; decide, fun p26 hp26 => ?_⟩
    have st27 := fun o => Same.trans (st26 _) (Same.new (o := o) hp26)
    tm_at "w"
    refine .inl ⟨_, _, ((Same.new hp26).get upd_same), upd_same, by simp only [List.length_append, List.length_cons, List.length_nil]; decide, fun p27 hp27 => ?_⟩
    have st28 := fun o => Same.trans (st27 _) (Same.new (o := o) hp27)
    tm_at "w"
    refine .inr (eq_ok (SqL.of ((Same.trans (Same.trans (Same.new hp25) (Same.new hp26)) (Same.new hp27)).get upd_same)) (SqL.of upd_same) (.cons (okS ht) (.cons (okS hm) (.cons (okS ht) (.cons okI (.cons (okS hm) (.cons (okS ht) (.cons okI (.cons (okS hm) (.cons okI (.cons okI (.cons okI (.cons (okS ht) (.cons (okS hm) (.cons (okS hm) (.cons (okS ht) (.cons (okS ht) (.cons (okT ((st28 _).seqT hl) fun u hu => by rw [(List.mem_replicate.mp hu).2]; exact ht) (.cons okI (.cons (okS hm) .nil))))))))))))))))))) (.cons (okS ht) (.cons (okS hm) (.cons (okS ht) (.cons okI (.cons (okS hm) (.cons (okS ht) (.cons okI (.cons (okS hm) (.cons okI (.cons okI (.cons okI (.cons (okS ht) (.cons (okS hm) (.cons (okS hm) (.cons (okS ht) (.cons (okS ht) (.cons (okT ((st28 _).seqT hl) fun u hu => by rw [(List.mem_replicate.mp hu).2]; exact ht) (.cons okI (.cons (okS hm) .nil))))))))))))))))))) ?_)
    exact q _ (st28 _)
theorem ok_law_later_named (T : Txt P K mg ad) : FnOk P w K mg base CX0 3 ad.a_law_later_named ad.d_law_later_named ["_law_some", "_law_other", "_law_text", "_law_more"] (spLaterN) := by
  refine T.f_law_later_named.ok sc_law_later_named (fun vs H Q E h => ?_) (fun cdv A outer s0 H vs Q E hr h => ?_)
  · obtain ⟨s, o, t, m, rfl, _⟩ := h; rfl
  · obtain ⟨s, o, t, m, rfl, ht, hm, hs, ho, lt, lm, q⟩ := h
    refine ⟨_, pss_cons (ps_par (i := 4) (j := 5) (by rfl) sc_law_later_named.nd rfl rfl (by decide) rfl rfl (pa_cons (pe_mkX0 T.ox_Clashed (ok_Clashed_XinitX T) (hr.mono (by decide)) rfl T.mg_Clashed T.kb_Clashed_theirs_ours pass0 (pk_cons (cv 1) (pk_cons (cv 0) pk_nil))) (pa_cons (pe_mkX0 T.ox_BadRelease (ok_BadRelease_XinitX T) (hr.mono (by decide)) rfl T.mg_BadRelease T.kb_BadRelease_number_name pass0 (pk_cons (cv 0) (pk_cons (cv 2) pk_nil))) pa_nil)) (by rfl))
      (pss_cons (ps_set (i := 6) sc_law_later_named.nd rfl (by first | exact Or.inl rfl | exact Or.inr rfl) (pe_mkX0 T.ox_NoRelease (ok_NoRelease_XinitX T) (hr.mono (by decide)) rfl T.mg_NoRelease T.kb_NoRelease_name_number pass0 (pk_cons (cv 3) (pk_cons (cv 1) pk_nil))))
      (pss_cons (ps_set (i := 7) sc_law_later_named.nd rfl (by first | exact Or.inl rfl | exact Or.inr rfl) (pe_lst (pa_cons (ce_fldX (K := K) (pe_mkX0 T.ox_NoPatch (ok_NoPatch_XinitX T) (hr.mono (by decide)) rfl T.mg_NoPatch T.kb_NoPatch_name pass0 (pk_cons (cv 2) pk_nil)) rfl) (pa_cons (ce_fldX (K := K) (cv 4) rfl) (pa_cons (ce_fldX (K := K) (cv 4) rfl) (pa_cons (ce_fldX (K := K) (pe_mkX0 T.ox_BadChoice (ok_BadChoice_XinitX T) (hr.mono (by decide)) rfl T.mg_BadChoice T.kb_BadChoice_name pass0 (pk_cons (cv 3) pk_nil)) rfl) (pa_cons (ce_fldX (K := K) (pe_mkX0 T.ox_BadJob (ok_BadJob_XinitX T) (hr.mono (by decide)) rfl T.mg_BadJob T.kb_BadJob_index pass0 (pk_cons (cv 0) pk_nil)) rfl) pa_nil)))))))
      (pss_cons (ps_set (i := 7) sc_law_later_named.nd rfl (by first | exact Or.inl rfl | exact Or.inr rfl) (pe_op (oc_add (K := K)) (cv 7) (pe_lst (pa_cons (ce_fldX (K := K) (pe_mkX0 T.ox_NoTurn (ok_NoTurn_XinitX T) (hr.mono (by decide)) rfl T.mg_NoTurn T.kb_NoTurn_count pass0 (pk_cons (cv 1) pk_nil)) rfl) (pa_cons (ce_fldX (K := K) (pe_mkX0 T.ox_NotClosed (ok_NotClosed_XinitX T) (hr.mono (by decide)) rfl T.mg_NotClosed T.kb_NotClosed_index pass0 (pk_cons (cv 0) pk_nil)) rfl) (pa_cons (ce_fldX (K := K) (cv 5) rfl) (pa_cons (ce_fldX (K := K) (cv 5) rfl) pa_nil)))))))
      (pss_cons (ps_set (i := 7) sc_law_later_named.nd rfl (by first | exact Or.inl rfl | exact Or.inr rfl) (pe_op (oc_add (K := K)) (cv 7) (pe_lst (pa_cons (ce_fldX (K := K) (cv 6) rfl) (pa_cons (ce_fldX (K := K) (cv 6) rfl) pa_nil)))))
      (pss_cons (ps_set (i := 7) sc_law_later_named.nd rfl (by first | exact Or.inl rfl | exact Or.inr rfl) (pe_op (oc_add (K := K)) (cv 7) (pe_lst (pa_cons (ce_fldX (K := K) (pe_mkX0 T.ox_BadSystem (ok_BadSystem_XinitX T) (hr.mono (by decide)) rfl T.mg_BadSystem T.kb_BadSystem_name pass0 (pk_cons (cv 2) pk_nil)) rfl) (pa_cons (ce_fldX (K := K) (pe_mkX0 T.ox_Occupied (ok_Occupied_XinitX T) (hr.mono (by decide)) rfl T.mg_Occupied T.kb_Occupied_path pass0 (pk_cons (cv 3) pk_nil)) rfl) (pa_cons (ce_fldX (K := K) (pe_mkX0 T.ox_NotWaiting (ok_NotWaiting_XinitX T) (hr.mono (by decide)) rfl T.mg_NotWaiting T.kb_NotWaiting_path pass0 (pk_cons (cv 2) pk_nil)) rfl) pa_nil))))))
      (pss_cons (ps_set (i := 8) sc_law_later_named.nd rfl (by first | exact Or.inl rfl | exact Or.inr rfl) (pe_lst (pa_cons (cv 2) (pa_cons (cv 0) (pa_cons (cv 1) (pa_cons (cv 3) (pa_cons (cv 0) (pa_cons (cv 1) (pa_cons (cv 0) (pa_cons (cv 2) (pa_cons (cv 0) (pa_cons (cv 3) (pa_cons (cv 1) (pa_cons (cv 2) (pa_cons (cv 3) (pa_cons (cv 2) pa_nil))))))))))))))))
      (pss_one (ps_ret (ce_and (pe_cmpR (oc_eq (K := K) hr.units) (cv 7) (cv 8) (nomark _)) (pe_one (pe_cmpR (oc_eq (K := K) hr.units) (ce_fldX (K := K) (pe_mkX0 T.ox_BadRecord (ok_BadRecord_XinitX T) (hr.mono (by decide)) rfl T.mg_BadRecord T.kb_BadRecord_name pass0 (pk_cons (cv 3) pk_nil)) rfl) (cv 3) (nomark _)))))))))))), ?_⟩
    tm_at "w"
    refine ⟨rfl, rfl, by decide, mk2 (show Fmt (.int s) from hs) (show Fmt (.int o) from ho) fun a0 H1 sm0 e0 => ?_⟩
    have st1 := Same.trans (Same.refl H) sm0
    tm_at "w"
    refine ⟨rfl, rfl, by decide, mk2 (show Fmt (.str t) from lt) (show Fmt (.int s) from hs) fun a1 H2 sm1 e1 => ?_⟩
    have st2 := Same.trans st1 sm1
    tm_at "w"
    refine ⟨_, _, rfl, ?_⟩
    tm_at "w"
    refine ⟨rfl, rfl, by decide, mk2 (show Fmt (.str m) from lm) (show Fmt (.int o) from ho) fun a2 H3 sm2 e2 => ?_⟩
    have st3 := Same.trans st2 sm2
    tm_at "w"
    refine ⟨rfl, rfl, by decide, mk1 (show Fmt (.str t) from lt) fun a3 H4 sm3 e3 => ?_⟩
    have st4 := Same.trans st3 sm3
    tm_at "w"
    refine ⟨_, _, _, _, e3, T.ox_NoPatch, T.na_NoPatch_name, lk0, ?_⟩
    tm_at "w"
    refine ⟨_, _, _, _, (ErrAt.same e0 (Same.trans (Same.trans sm1 sm2) sm3)), T.ox_Clashed, T.na_Clashed_ours, (lk1 (by decide +kernel)), ?_⟩
    tm_at "w"
    refine ⟨_, _, _, _, (ErrAt.same e0 (Same.trans (Same.trans sm1 sm2) sm3)), T.ox_Clashed, T.na_Clashed_theirs, lk0, ?_⟩
    tm_at "w"
    refine ⟨rfl, rfl, by decide, mk1 (show Fmt (.str m) from lm) fun a4 H5 sm4 e4 => ?_⟩
    have st5 := Same.trans st4 sm4
    tm_at "w"
    refine ⟨_, _, _, _, e4, T.ox_BadChoice, T.na_BadChoice_name, lk0, ?_⟩
    tm_at "w"
    refine ⟨rfl, rfl, by decide, mk1 (show Fmt (.int s) from hs) fun a5 H6 sm5 e5 => ?_⟩
    have st6 := Same.trans st5 sm5
    tm_at "w"
    refine ⟨_, _, _, _, e5, T.ox_BadJob, T.na_BadJob_index, lk0, ?_⟩
    tm_at "w"
    refine ⟨by show 5 ≤ sizeLine; decide, fun p6 hp6 => ?_⟩
    have st7 := fun o => Same.trans st6 (Same.new (o := o) hp6)
    tm_at "w"
    refine ⟨rfl, rfl, by decide, mk1 (show Fmt (.int o) from ho) fun a7 H8 sm7 e7 => ?_⟩
    have st8 := Same.trans (st7 _) sm7
    tm_at "w"
    refine ⟨_, _, _, _, e7, T.ox_NoTurn, T.na_NoTurn_count, lk0, ?_⟩
    tm_at "w"
    refine ⟨rfl, rfl, by decide, mk1 (show Fmt (.int s) from hs) fun a8 H9 sm8 e8 => ?_⟩
    have st9 := Same.trans st8 sm8
    tm_at "w"
    refine ⟨_, _, _, _, e8, T.ox_NotClosed, T.na_NotClosed_index, lk0, ?_⟩
    tm_at "w"
    refine ⟨_, _, _, _, (ErrAt.same e1 (Same.trans (Same.trans (Same.trans (Same.trans (Same.trans (Same.trans sm2 sm3) sm4) sm5) (Same.new hp6)) sm7) sm8)), T.ox_BadRelease, T.na_BadRelease_name, (lk1 (by decide +kernel)), ?_⟩
    tm_at "w"
    refine ⟨_, _, _, _, (ErrAt.same e1 (Same.trans (Same.trans (Same.trans (Same.trans (Same.trans (Same.trans sm2 sm3) sm4) sm5) (Same.new hp6)) sm7) sm8)), T.ox_BadRelease, T.na_BadRelease_number, lk0, ?_⟩
    tm_at "w"
    refine ⟨by show 4 ≤ sizeLine; decide, fun p9 hp9 => ?_⟩
    have st10 := fun o => Same.trans st9 (Same.new (o := o) hp9)
    tm_at "w"
    refine .inl ⟨_, _, ((Same.trans (Same.trans sm7 sm8) (Same.new hp9)).get upd_same), upd_same, by simp only [List.length_append, List.length_cons, List.length_nil]; decide, fun p10 hp10 => ?_⟩
    have st11 := fun o => Same.trans (st10 _) (Same.new (o := o) hp10)
    tm_at "w"
    refine ⟨_, _, _, _, (ErrAt.same e2 (Same.trans (Same.trans (Same.trans (Same.trans (Same.trans (Same.trans (Same.trans sm3 sm4) sm5) (Same.new hp6)) sm7) sm8) (Same.new hp9)) (Same.new hp10))), T.ox_NoRelease, T.na_NoRelease_name, (lk1 (by decide +kernel)), ?_⟩
    tm_at "w"
    refine ⟨_, _, _, _, (ErrAt.same e2 (Same.trans (Same.trans (Same.trans (Same.trans (Same.trans (Same.trans (Same.trans sm3 sm4) sm5) (Same.new hp6)) sm7) sm8) (Same.new hp9)) (Same.new hp10))), T.ox_NoRelease, T.na_NoRelease_number, lk0, ?_⟩
    tm_at "w"
    refine ⟨by show 2 ≤ sizeLine; decide, fun p11 hp11 => ?_⟩
    have st12 := fun o => Same.trans (st11 _) (Same.new (o := o) hp11)
    tm_at "w"
    refine .inl ⟨_, _, ((Same.new hp11).get upd_same), upd_same, by simp only [List.length_append, List.length_cons, List.length_nil]; decide, fun p12 hp12 => ?_⟩
    have st13 := fun o => Same.trans (st12 _) (Same.new (o := o) hp12)
    tm_at "w"
    refine ⟨rfl, rfl, by decide, mk1 (show Fmt (.str t) from lt) fun a13 H14 sm13 e13 => ?_⟩
    have st14 := Same.trans (st13 _) sm13
    tm_at "w"
    refine ⟨_, _, _, _, e13, T.ox_BadSystem, T.na_BadSystem_name, lk0, ?_⟩
    tm_at "w"
    refine ⟨rfl, rfl, by decide, mk1 (show Fmt (.str m) from lm) fun a14 H15 sm14 e14 => ?_⟩
    have st15 := Same.trans st14 sm14
    tm_at "w"
    refine ⟨_, _, _, _, e14, T.ox_Occupied, T.na_Occupied_path, lk0, ?_⟩
    tm_at "w"
    refine ⟨rfl, rfl, by decide, mk1 (show Fmt (.str t) from lt) fun a15 H16 sm15 e15 => ?_⟩
    have st16 := Same.trans st15 sm15
    tm_at "w"
    refine ⟨_, _, _, _, e15, T.ox_NotWaiting, T.na_NotWaiting_path, lk0, ?_⟩
    tm_at "w"
    refine ⟨by show 3 ≤ sizeLine; decide, fun p16 hp16 => ?_⟩
    have st17 := fun o => Same.trans st16 (Same.new (o := o) hp16)
    tm_at "w"
    refine .inl ⟨_, _, ((Same.trans (Same.trans (Same.trans sm13 sm14) sm15) (Same.new hp16)).get upd_same), upd_same, by simp only [List.length_append, List.length_cons, List.length_nil]; decide, fun p17 hp17 => ?_⟩
    have st18 := fun o => Same.trans (st17 _) (Same.new (o := o) hp17)
    tm_at "w"
    refine ⟨by show 14 ≤ sizeLine; decide, fun p18 hp18 => ?_⟩
    have st19 := fun o => Same.trans (st18 _) (Same.new (o := o) hp18)
    tm_at "w"
    refine .inr (eq_ok (SqL.of ((Same.new hp18).get upd_same)) (SqL.of upd_same) (.cons (okS ht) (.cons okI (.cons okI (.cons (okS hm) (.cons okI (.cons okI (.cons okI (.cons (okS ht) (.cons okI (.cons (okS hm) (.cons okI (.cons (okS ht) (.cons (okS hm) (.cons (okS ht) .nil)))))))))))))) (.cons (okS ht) (.cons okI (.cons okI (.cons (okS hm) (.cons okI (.cons okI (.cons okI (.cons (okS ht) (.cons okI (.cons (okS hm) (.cons okI (.cons (okS ht) (.cons (okS hm) (.cons (okS ht) .nil)))))))))))))) ?_)
    tm_at "w"
    refine ⟨fun _ => ?_, fun z => nomatch z⟩
    tm_at "w"
    refine ⟨rfl, rfl, by decide, mk1 (show Fmt (.str m) from lm) fun a19 H20 sm19 e19 => ?_⟩
    have st20 := Same.trans (st19 _) sm19
    tm_at "w"
    refine ⟨_, _, _, _, e19, T.ox_BadRecord, T.na_BadRecord_name, lk0, ?_⟩
    tm_at "w"
    rw [decide_eq_true rfl]
    exact q _ st20
end
end Toy

namespace Toy
open PySem L2
local macro_rules | `(tactic| tm_at "w") => `(tactic| (conv => whnf))
local macro_rules | `(tactic| tm_at "fr") => `(tactic| first | assumption | exact upd_none (by assumption) | exact upd_none (upd_none (by assumption)) | exact upd_none (upd_none (upd_none (by assumption))) | exact upd_none (upd_none (upd_none (upd_none (by assumption)))))
local macro_rules | `(tactic| tm_at "ne") => `(tactic| first | assumption | (apply Ne.symm; assumption) | exact upd_none_ne (by assumption) | exact (upd_none_ne (by assumption)).symm | exact upd_none_ne (upd_none (by assumption)) | exact (upd_none_ne (upd_none (by assumption))).symm | exact upd_none_ne (upd_none (upd_none (by assumption))) | exact (upd_none_ne (upd_none (upd_none (by assumption)))).symm)
local macro_rules | `(tactic| tm_at "heap") => `(tactic| first | assumption | exact upd_same | (refine upd_new ?_ (by tm_at "fr"); tm_at "heap") | (refine upd_oth (by tm_at "ne") ?_; tm_at "heap") | (refine SameB.get (by assumption) (by tm_at "ne") ?_; tm_at "heap") | (refine Same.get (by assumption) ?_; tm_at "heap"))
local macro_rules | `(tactic| tm_at "sq") => `(tactic| first | assumption | exact SqL.of (by tm_at "heap") | exact SqT.of (by tm_at "heap"))
local macro_rules | `(tactic| tm_at "ix") => `(tactic| (conv => whnf); first | refine ⟨_, _, .inl (by tm_at "sq"), rfl, ?_⟩ | refine ⟨_, _, .inr (by tm_at "sq"), rfl, ?_⟩)
local macro_rules | `(tactic| tm_at "sb") => `(tactic| first | assumption | exact SameB.refl | (refine SameB.ws ?_; tm_at "sb") | (refine SameB.wr ?_ (by tm_at "fr"); tm_at "sb") | (refine SameB.trans ?_ (by assumption); tm_at "sb"))
local macro_rules | `(tactic| tm_at "hs") => `(tactic| first | assumption | exact upd_same | (refine upd_new ?_ (by assumption); tm_at "hs") | (refine Same.get (by assumption) ?_; tm_at "hs"))
local macro_rules | `(tactic| tm_at "sm") => `(tactic| first | exact Same.refl _ | assumption | (refine Same.trans ?_ (Same.new (by assumption)); tm_at "sm") | (refine Same.trans ?_ (by assumption); tm_at "sm"))
theorem strOk_app {a b : Str} (ha : PyData.strOk a = true) (hb : PyData.strOk b = true) : PyData.strOk (a ++ b) = true := by
  obtain ⟨a⟩ := a; obtain ⟨b⟩ := b
  show (a ++ b).all (· < 0x110000) = true
  have ha : a.all (· < 0x110000) = true := ha
  have hb : b.all (· < 0x110000) = true := hb
  rw [Array.all_append, ha, hb]; rfl
theorem join_ok {e : Str} (he : e.length = 0) (ho : PyData.strOk e = true) : ∀ {ts : List Str}, (∀ t ∈ ts, t.length = 1 ∧ PyData.strOk t = true) → (Str.join e ts).length = ts.length ∧ PyData.strOk (Str.join e ts) = true
  | [], _ => ⟨rfl, (by decide +kernel : PyData.strOk Str.empty = true)⟩
  | [t], h => ⟨(h t List.mem_cons_self).1, (h t List.mem_cons_self).2⟩
  | t :: u :: r, h => by
    have hi := join_ok he ho (ts := u :: r) fun x hx => h x (List.mem_cons_of_mem _ hx)
    have h1 := h t List.mem_cons_self
    refine ⟨?_, ?_⟩
    · show (t ++ e ++ Str.join e (u :: r)).length = _
      rw [str_len_app, str_len_app, hi.1, h1.1, he]
      show 1 + 0 + (r.length + 1) = r.length + 1 + 1
      omega
    · show PyData.strOk (t ++ e ++ Str.join e (u :: r)) = true
      exact strOk_app (strOk_app h1.2 ho) hi.2
theorem join_sum {ts : List Str} (h : ∀ t ∈ ts, t.length = 1 ∧ PyData.strOk t = true) : (ts.map (·.length)).sum = ts.length := by
  induction ts with
  | nil => rfl
  | cons t ts ih =>
    rw [List.map_cons, List.sum_cons, ih fun x hx => h x (List.mem_cons_of_mem _ hx), (h t List.mem_cons_self).1, List.length_cons]; omega
theorem one_ok {z : Str} (hz : PyData.strOk z = true) {c : Nat} (hm : c ∈ z.cps.toList) : (⟨#[c]⟩ : Str).length = 1 ∧ PyData.strOk ⟨#[c]⟩ = true := by
  refine ⟨rfl, ?_⟩
  have hz : z.cps.all (· < 0x110000) = true := hz
  rw [← Array.all_toList] at hz
  have := List.all_eq_true.mp hz c hm
  show (#[c]).all (· < 0x110000) = true
  rw [← Array.all_toList]
  simpa using this
theorem due_row {i : Nat} (hi : i < 34) : ((List.range 36).map fun y : Nat => decide ((0 : Int) + (i : Int) = 0 + (y : Int))) = rowOf i := by
  have e : List.range 36 = List.range 34 ++ [34, 35] := by decide
  unfold rowOf
  rw [e, List.map_append]
  have e1 : ∀ y : Nat, decide ((0 : Int) + (i : Int) = 0 + (y : Int)) = decide (i = y) := fun y => by
    by_cases h : i = y
    · rw [decide_eq_true h, decide_eq_true (by omega)]
    · rw [decide_eq_false h, decide_eq_false (by omega)]
  simp only [e1, List.map_cons, List.map_nil]
  rw [decide_eq_false (show ¬ i = 34 by omega), decide_eq_false (show ¬ i = 35 by omega)]
theorem okAll_rows {K : PySem.W.Frag} {H : Hp} {row : Nat → List Bool} : ∀ {ls : List Addr} {k : Nat}, (∀ i p, ls[i]? = some p → H p = some (.lst ((row (k + i)).map V.bl))) → OkAll K H (ls.map V.ref) ((List.range' k ls.length).map fun i => PyData.list ((row i).map PyData.bool))
  | [], _, _ => .nil
  | p :: ls, k, h => .cons (okLb (SqL.of (h 0 p rfl))) (okAll_rows (k := k + 1) fun i q hq => by rw [Nat.add_assoc, Nat.add_comm 1 i]; exact h (i + 1) q hq)
theorem ErrsAt.get {H : Hp} : ∀ {ss : List (Addr × List (Str × V))} {es : List V} {i : Nat} {x : V}, ErrsAt H ss es → es[i]? = some x → ∃ a C fs, x = .ref a ∧ ss[i]? = some (C, fs) ∧ ErrAt H a C fs
  | [], _, i, x, h, hx => by cases (show _ = [] from h); cases hx
  | (C, fs) :: ss, es, 0, x, h, hx => by
    obtain ⟨a, r, rfl, h2, h3⟩ := h
    cases hx
    exact ⟨a, C, fs, rfl, rfl, h2⟩
  | (C, fs) :: ss, es, i + 1, x, h, hx => by
    obtain ⟨a, r, rfl, h2, h3⟩ := h
    have z := ErrsAt.get (i := i) h3 hx
    exact z
theorem ErrsAt.len {H : Hp} : ∀ {ss : List (Addr × List (Str × V))} {es : List V}, ErrsAt H ss es → es.length = ss.length
  | [], _, h => by cases (show _ = [] from h); rfl
  | (C, fs) :: ss, es, h => by
    obtain ⟨a, r, rfl, h2, h3⟩ := h
    rw [List.length_cons, List.length_cons, ErrsAt.len h3]
theorem wipe_back {σ : St} {i : Nat} {v : Option V} : wipe ((wipe σ [i]).set i v) [i] = wipe σ [i] := by
  show ((σ.set i none).set i v).set i none = σ.set i none
  rw [List.set_set, List.set_set]
theorem all_ox {P : Program} {K : PySem.W.Frag} {mg : Str → Option Value} {ad : Ad} (T : Txt P K mg ad) : ∀ C ∈ clsL ad, ∃ fI, OxF K C fI := List.forall_mem_cons.mpr ⟨⟨_, T.ox_BadName⟩, List.forall_mem_cons.mpr ⟨⟨_, T.ox_BadPath⟩, List.forall_mem_cons.mpr ⟨⟨_, T.ox_NoFile⟩, List.forall_mem_cons.mpr ⟨⟨_, T.ox_BadHunk⟩, List.forall_mem_cons.mpr ⟨⟨_, T.ox_BadPatch⟩, List.forall_mem_cons.mpr ⟨⟨_, T.ox_Refused⟩, List.forall_mem_cons.mpr ⟨⟨_, T.ox_Entangled⟩, List.forall_mem_cons.mpr ⟨⟨_, T.ox_BadSeries⟩, List.forall_mem_cons.mpr ⟨⟨_, T.ox_Stopped⟩, List.forall_mem_cons.mpr ⟨⟨_, T.ox_BadRecipe⟩, List.forall_mem_cons.mpr ⟨⟨_, T.ox_Outside⟩, List.forall_mem_cons.mpr ⟨⟨_, T.ox_Absent⟩, List.forall_mem_cons.mpr ⟨⟨_, T.ox_BadArchive⟩, List.forall_mem_cons.mpr ⟨⟨_, T.ox_NoPlan⟩, List.forall_mem_cons.mpr ⟨⟨_, T.ox_Unrecorded⟩, List.forall_mem_cons.mpr ⟨⟨_, T.ox_Unchanged⟩, List.forall_mem_cons.mpr ⟨⟨_, T.ox_TooFew⟩, List.forall_mem_cons.mpr ⟨⟨_, T.ox_UnknownField⟩, List.forall_mem_cons.mpr ⟨⟨_, T.ox_NoOrder⟩, List.forall_mem_cons.mpr ⟨⟨_, T.ox_NoPatch⟩, List.forall_mem_cons.mpr ⟨⟨_, T.ox_Clashed⟩, List.forall_mem_cons.mpr ⟨⟨_, T.ox_BadChoice⟩, List.forall_mem_cons.mpr ⟨⟨_, T.ox_BadJob⟩, List.forall_mem_cons.mpr ⟨⟨_, T.ox_BadPlan⟩, List.forall_mem_cons.mpr ⟨⟨_, T.ox_NoTurn⟩, List.forall_mem_cons.mpr ⟨⟨_, T.ox_NotClosed⟩, List.forall_mem_cons.mpr ⟨⟨_, T.ox_BadRelease⟩, List.forall_mem_cons.mpr ⟨⟨_, T.ox_NoRelease⟩, List.forall_mem_cons.mpr ⟨⟨_, T.ox_NoChoice⟩, List.forall_mem_cons.mpr ⟨⟨_, T.ox_BadSystem⟩, List.forall_mem_cons.mpr ⟨⟨_, T.ox_Occupied⟩, List.forall_mem_cons.mpr ⟨⟨_, T.ox_NotWaiting⟩, List.forall_mem_cons.mpr ⟨⟨_, T.ox_BadRecord⟩, List.forall_mem_cons.mpr ⟨⟨_, T.ox_Down⟩, List.forall_mem_nil _⟩⟩⟩⟩⟩⟩⟩⟩⟩⟩⟩⟩⟩⟩⟩⟩⟩⟩⟩⟩⟩⟩⟩⟩⟩⟩⟩⟩⟩⟩⟩⟩⟩⟩
theorem spec_cls {ad : Ad} {s o : Int} {t m : Str} {l : Addr} : (specE ad s o t m l ++ specL ad s o t m).map (·.1) = clsL ad := rfl
section
variable {P : Program} {w : World} {K : PySem.W.Frag} {mg : Str → Option Value} {base : Heap} {ad : Ad}
set_option maxHeartbeats 8000000 in
theorem ok_law (T : Txt P K mg ad) : FnOk P w K mg base CX0 5 ad.a_law ad.d_law ["_law_script"] (spLaw K) := by
  refine T.f_law.ok sc_law (fun vs H Q E h => ?_) (fun cdv A outer s H vs Q E hr h => ?_)
  · obtain ⟨a, ns, rfl, _⟩ := h; rfl
  · obtain ⟨a, ns, rfl, ha, hns, q⟩ := h
    refine ⟨_, pss_cons (ps_for PassesOwn.never rfl (pi_range1 rfl T.n_range (pa_cons (pe_callB (cc_max rfl) (by rfl) T.n_max (by decide +kernel) (pa_cons pe_int (pa_cons (pe_callB (cc_min rfl) (by rfl) T.n_min (by decide +kernel) (pa_cons pe_int (pa_cons (pe_callB (cc_len (K := K)) (by rfl) T.n_len (by decide +kernel) (pa_cons (cv 0) pa_nil)) pa_nil))) pa_nil))) pa_nil)) (pg_name (i := 1) sc_law.nd rfl (by first | exact Or.inl rfl | exact Or.inr rfl))
        (pss_cons (ps_set (i := 2) sc_law.nd rfl (by first | exact Or.inl rfl | exact Or.inr rfl) (pe_call (ok_law_source T) (hr.mono (by decide)) rfl T.m_law_source T.k_law_source T.b_law_source .nil pass0 (pa_cons (cv 0) (pa_cons (cv 1) pa_nil))))
        (pss_cons (ps_set (i := 3) sc_law.nd rfl (by first | exact Or.inl rfl | exact Or.inr rfl) (pe_call (ok_law_draw T) (hr.mono (by decide)) rfl T.m_law_draw T.k_law_draw T.b_law_draw .nil pass0 (pa_cons (cv 2) (pa_cons (pe_op oc_pow pe_int pe_int) pa_nil))))
        (pss_cons (ps_set (i := 4) sc_law.nd rfl (by first | exact Or.inl rfl | exact Or.inr rfl) (pe_op oc_sub pe_int (pe_call (ok_law_draw T) (hr.mono (by decide)) rfl T.m_law_draw T.k_law_draw T.b_law_draw .nil pass0 (pa_cons (cv 2) (pa_cons pe_int pa_nil)))))
        (pss_cons (ps_set (i := 5) sc_law.nd rfl (by first | exact Or.inl rfl | exact Or.inr rfl) pe_str)
        (pss_cons (ps_set (i := 6) sc_law.nd rfl (by first | exact Or.inl rfl | exact Or.inr rfl) (pe_join pe_str (pe_lc (own := [("_law_letter", 7)]) (g := gName 7) (by rfl) sc_law.nd  (pi_range1 rfl T.n_range (pa_cons (pe_call (ok_law_draw T) (hr.mono (by decide)) rfl T.m_law_draw T.k_law_draw T.b_law_draw .nil pass0 (pa_cons (cv 2) (pa_cons pe_int pa_nil))) pa_nil)) (blkOk_by (own := [("_law_letter", 7)]) (N := N_law) (sc := defScope s_law) (by decide +kernel)) (fun _ _ _ _ _ => pg_name (i := 7) sc_law.nd rfl (by first | exact Or.inl rfl | exact Or.inr rfl)) (fun _ _ _ _ _ => pts_nil) (fun _ _ _ _ _ => pe_ix (ic_seq (K := K)) (cv 5) (pe_call (ok_law_draw T) (hr.mono (by decide)) rfl T.m_law_draw T.k_law_draw T.b_law_draw .nil pass0 (pa_cons (cv 2) (pa_cons (pe_callB (cc_len (K := K)) (by rfl) T.n_len (by decide +kernel) (pa_cons (cv 5) pa_nil)) pa_nil))) (fun _ _ => rfl)))))
        (pss_cons (ps_set (i := 8) sc_law.nd rfl (by first | exact Or.inl rfl | exact Or.inr rfl) (pe_op (oc_add (K := K)) pe_str (cv 6)))
        (pss_cons (PS.cut (ps_set (i := 9) sc_law.nd rfl (by first | exact Or.inl rfl | exact Or.inr rfl) (pe_callTy (cc_tuple (K := K)) (by rfl) T.n_tuple (by decide +kernel) (pa_cons (pe_op oc_mul (pe_lst (pa_cons (cv 6) pa_nil)) (pe_call (ok_law_draw T) (hr.mono (by decide)) rfl T.m_law_draw T.k_law_draw T.b_law_draw .nil pass0 (pa_cons (cv 2) (pa_cons pe_int pa_nil)))) pa_nil))))
        (pss_cons (ps_set (i := 10) sc_law.nd rfl (by first | exact Or.inl rfl | exact Or.inr rfl) (pe_lst (pa_cons (pe_mkX T.ox_BadName (ok_BadName_XinitX T) (hr.mono (by decide)) rfl T.mg_BadName (kbn_of T.b_BadName_XinitX rfl) pass0 (pa_cons (cv 6) pa_nil) pk_nil) (pa_cons (pe_mkX T.ox_BadPath (ok_BadPath_XinitX T) (hr.mono (by decide)) rfl T.mg_BadPath (kbn_of T.b_BadPath_XinitX rfl) pass0 (pa_cons (cv 6) pa_nil) pk_nil) (pa_cons (pe_mkX T.ox_NoFile (ok_NoFile_XinitX T) (hr.mono (by decide)) rfl T.mg_NoFile (kbn_of T.b_NoFile_XinitX rfl) pass0 (pa_cons (cv 8) pa_nil) pk_nil) (pa_cons (pe_mkX T.ox_BadHunk (ok_BadHunk_XinitX T) (hr.mono (by decide)) rfl T.mg_BadHunk (kbn_of T.b_BadHunk_XinitX rfl) pass0 (pa_cons (cv 3) pa_nil) pk_nil) (pa_cons (pe_mkX T.ox_BadPatch (ok_BadPatch_XinitX T) (hr.mono (by decide)) rfl T.mg_BadPatch (kbn_of T.b_BadPatch_XinitX rfl) pass0 (pa_cons (cv 6) pa_nil) pk_nil) (pa_cons (pe_mkX T.ox_Refused (ok_Refused_XinitX T) (hr.mono (by decide)) rfl T.mg_Refused (kbn_of T.b_Refused_XinitX rfl) pass0 (pa_cons (cv 8) (pa_cons (cv 4) pa_nil)) pk_nil) pa_nil))))))))
        (pss_cons (ps_set (i := 10) sc_law.nd rfl (by first | exact Or.inl rfl | exact Or.inr rfl) (pe_op (oc_add (K := K)) (cv 10) (pe_lst (pa_cons (pe_mkX T.ox_Entangled (ok_Entangled_XinitX T) (hr.mono (by decide)) rfl T.mg_Entangled (kbn_of T.b_Entangled_XinitX rfl) pass0 (pa_cons (cv 6) pa_nil) pk_nil) (pa_cons (pe_mkX T.ox_BadSeries (ok_BadSeries_XinitX T) (hr.mono (by decide)) rfl T.mg_BadSeries (kbn_of T.b_BadSeries_XinitX rfl) pass0 (pa_cons (cv 3) pa_nil) pk_nil) (pa_cons (pe_mkX T.ox_Stopped (ok_Stopped_XinitX T) (hr.mono (by decide)) rfl T.mg_Stopped (kbn_of T.b_Stopped_XinitX rfl) pass0 (pa_cons (cv 4) pa_nil) pk_nil) (pa_cons (pe_mkX T.ox_BadRecipe (ok_BadRecipe_XinitX T) (hr.mono (by decide)) rfl T.mg_BadRecipe (kbn_of T.b_BadRecipe_XinitX rfl) pass0 (pa_cons (cv 3) pa_nil) pk_nil) (pa_cons (pe_mkX T.ox_Outside (ok_Outside_XinitX T) (hr.mono (by decide)) rfl T.mg_Outside (kbn_of T.b_Outside_XinitX rfl) pass0 (pa_cons (cv 6) (pa_cons (cv 8) pa_nil)) pk_nil) pa_nil))))))))
        (pss_cons (ps_set (i := 10) sc_law.nd rfl (by first | exact Or.inl rfl | exact Or.inr rfl) (pe_op (oc_add (K := K)) (cv 10) (pe_lst (pa_cons (pe_mkX T.ox_Absent (ok_Absent_XinitX T) (hr.mono (by decide)) rfl T.mg_Absent (kbn_of T.b_Absent_XinitX rfl) pass0 (pa_cons (cv 8) (pa_cons (cv 6) pa_nil)) pk_nil) (pa_cons (pe_mkX T.ox_BadArchive (ok_BadArchive_XinitX T) (hr.mono (by decide)) rfl T.mg_BadArchive (kbn_of T.b_BadArchive_XinitX rfl) pass0 (pa_cons (cv 6) pa_nil) pk_nil) (pa_cons (pe_mkX T.ox_NoPlan (ok_NoPlan_XinitX T) (hr.mono (by decide)) rfl T.mg_NoPlan (kbn_of T.b_NoPlan_XinitX rfl) pass0 (pa_cons (cv 9) pa_nil) pk_nil) (pa_cons (pe_mkX0 T.ox_Unrecorded (ok_Unrecorded_XinitX T) (hr.mono (by decide)) rfl T.mg_Unrecorded (kbn_of T.b_Unrecorded_XinitX rfl) pass0 pk_nil) (pa_cons (pe_mkX0 T.ox_Unchanged (ok_Unchanged_XinitX T) (hr.mono (by decide)) rfl T.mg_Unchanged (kbn_of T.b_Unchanged_XinitX rfl) pass0 pk_nil) pa_nil))))))))
        (pss_cons (ps_set (i := 10) sc_law.nd rfl (by first | exact Or.inl rfl | exact Or.inr rfl) (pe_op (oc_add (K := K)) (cv 10) (pe_lst (pa_cons (pe_mkX T.ox_TooFew (ok_TooFew_XinitX T) (hr.mono (by decide)) rfl T.mg_TooFew (kbn_of T.b_TooFew_XinitX rfl) pass0 (pa_cons (cv 4) pa_nil) pk_nil) (pa_cons (pe_mkX T.ox_UnknownField (ok_UnknownField_XinitX T) (hr.mono (by decide)) rfl T.mg_UnknownField (kbn_of T.b_UnknownField_XinitX rfl) pass0 (pa_cons (cv 8) pa_nil) pk_nil) pa_nil)))))
        (pss_cons (ps_set (i := 11) sc_law.nd rfl (by first | exact Or.inl rfl | exact Or.inr rfl) (pe_lst (pa_cons (pe_mkX0 T.ox_NoOrder (ok_NoOrder_XinitX T) (hr.mono (by decide)) rfl T.mg_NoOrder (kbn_of T.b_NoOrder_XinitX rfl) pass0 pk_nil) (pa_cons (pe_mkX T.ox_NoPatch (ok_NoPatch_XinitX T) (hr.mono (by decide)) rfl T.mg_NoPatch (kbn_of T.b_NoPatch_XinitX rfl) pass0 (pa_cons (cv 6) pa_nil) pk_nil) (pa_cons (pe_mkX T.ox_Clashed (ok_Clashed_XinitX T) (hr.mono (by decide)) rfl T.mg_Clashed (kbn_of T.b_Clashed_XinitX rfl) pass0 (pa_cons (cv 3) (pa_cons (cv 4) pa_nil)) pk_nil) (pa_cons (pe_mkX T.ox_BadChoice (ok_BadChoice_XinitX T) (hr.mono (by decide)) rfl T.mg_BadChoice (kbn_of T.b_BadChoice_XinitX rfl) pass0 (pa_cons (cv 8) pa_nil) pk_nil) (pa_cons (pe_mkX T.ox_BadJob (ok_BadJob_XinitX T) (hr.mono (by decide)) rfl T.mg_BadJob (kbn_of T.b_BadJob_XinitX rfl) pass0 (pa_cons (cv 3) pa_nil) pk_nil) (pa_cons (pe_mkX0 T.ox_BadPlan (ok_BadPlan_XinitX T) (hr.mono (by decide)) rfl T.mg_BadPlan (kbn_of T.b_BadPlan_XinitX rfl) pass0 pk_nil) pa_nil))))))))
        (pss_cons (ps_set (i := 11) sc_law.nd rfl (by first | exact Or.inl rfl | exact Or.inr rfl) (pe_op (oc_add (K := K)) (cv 11) (pe_lst (pa_cons (pe_mkX T.ox_NoTurn (ok_NoTurn_XinitX T) (hr.mono (by decide)) rfl T.mg_NoTurn (kbn_of T.b_NoTurn_XinitX rfl) pass0 (pa_cons (cv 4) pa_nil) pk_nil) (pa_cons (pe_mkX T.ox_NotClosed (ok_NotClosed_XinitX T) (hr.mono (by decide)) rfl T.mg_NotClosed (kbn_of T.b_NotClosed_XinitX rfl) pass0 (pa_cons (cv 3) pa_nil) pk_nil) (pa_cons (pe_mkX T.ox_BadRelease (ok_BadRelease_XinitX T) (hr.mono (by decide)) rfl T.mg_BadRelease (kbn_of T.b_BadRelease_XinitX rfl) pass0 (pa_cons (cv 6) (pa_cons (cv 3) pa_nil)) pk_nil) (pa_cons (pe_mkX T.ox_NoRelease (ok_NoRelease_XinitX T) (hr.mono (by decide)) rfl T.mg_NoRelease (kbn_of T.b_NoRelease_XinitX rfl) pass0 (pa_cons (cv 8) (pa_cons (cv 4) pa_nil)) pk_nil) (pa_cons (pe_mkX0 T.ox_NoChoice (ok_NoChoice_XinitX T) (hr.mono (by decide)) rfl T.mg_NoChoice (kbn_of T.b_NoChoice_XinitX rfl) pass0 pk_nil) pa_nil))))))))
        (pss_cons (PS.cut (ps_set (i := 11) sc_law.nd rfl (by first | exact Or.inl rfl | exact Or.inr rfl) (pe_op (oc_add (K := K)) (cv 11) (pe_lst (pa_cons (pe_mkX T.ox_BadSystem (ok_BadSystem_XinitX T) (hr.mono (by decide)) rfl T.mg_BadSystem (kbn_of T.b_BadSystem_XinitX rfl) pass0 (pa_cons (cv 6) pa_nil) pk_nil) (pa_cons (pe_mkX T.ox_Occupied (ok_Occupied_XinitX T) (hr.mono (by decide)) rfl T.mg_Occupied (kbn_of T.b_Occupied_XinitX rfl) pass0 (pa_cons (cv 8) pa_nil) pk_nil) (pa_cons (pe_mkX T.ox_NotWaiting (ok_NotWaiting_XinitX T) (hr.mono (by decide)) rfl T.mg_NotWaiting (kbn_of T.b_NotWaiting_XinitX rfl) pass0 (pa_cons (cv 6) pa_nil) pk_nil) (pa_cons (pe_mkX T.ox_BadRecord (ok_BadRecord_XinitX T) (hr.mono (by decide)) rfl T.mg_BadRecord (kbn_of T.b_BadRecord_XinitX rfl) pass0 (pa_cons (cv 8) pa_nil) pk_nil) (pa_cons (pe_mkX0 T.ox_Down (ok_Down_XinitX T) (hr.mono (by decide)) rfl T.mg_Down (kbn_of T.b_Down_XinitX rfl) pass0 pk_nil) pa_nil)))))))))
        (pss_cons (PS.cut (ps_setLc (i := 12) (own := [("_law_first", 14)]) (g := gName 14) (by rfl) sc_law.nd rfl rfl (sw_true rfl rfl rfl (by decide +kernel)) (pi_range1 rfl T.n_range (pa_cons pe_int pa_nil)) (blkOk_by (own := [("_law_first", 14)]) (N := N_law) (sc := defScope s_law) (by decide +kernel)) (fun _ _ _ _ _ => pg_name (i := 14) sc_law.nd rfl (by first | exact Or.inl rfl | exact Or.inr rfl)) (fun _ _ _ _ _ => pts_nil) (fun _ _ _ _ _ => pe_lc (own := [("_law_second", 13)]) (g := gName 13) (by rfl) sc_law.nd  (pi_range1 rfl T.n_range (pa_cons pe_int pa_nil)) (blkOk_by (own := [("_law_second", 13)]) (N := N_law) (by rfl)) (fun _ _ _ _ _ => pg_name (i := 13) sc_law.nd rfl (by first | exact Or.inl rfl | exact Or.inr rfl)) (fun _ _ _ _ _ => pts_nil) (fun _ _ _ _ _ => pe_cmpR (oc_eq (K := K) hr.units) (cv 14) (cv 13) (nomark _)))))
        (pss_cons (cs_if (ct_cmp (oc_ne (K := K) hr.units) (pe_lc (own := [("_law_error", 15)]) (g := gName 15) (by rfl) sc_law.nd  (pic_seq (K := K) (pe_op (oc_add (K := K)) (cv 10) (cv 11))) (blkOk_by (own := [("_law_error", 15)]) (N := N_law) (sc := defScope s_law) (by decide +kernel)) (fun _ _ _ _ _ => pg_name (i := 15) sc_law.nd rfl (by first | exact Or.inl rfl | exact Or.inr rfl)) (fun _ _ _ _ _ => pts_nil) (fun _ _ _ _ _ => pe_call (ok_law_flags T) (hr.mono (by decide)) rfl T.m_law_flags T.k_law_flags T.b_law_flags .nil pass0 (pa_cons (cv 15) pa_nil))) (cv 12) (nomark _))
          (pss_one (ps_ret pe_bl))
          pss_nil)
        (pss_cons (cs_if (PW.pt (cw_or (pt_not (ct_val (pe_call (ok_law_later_kept T) (hr.mono (by decide)) rfl T.m_law_later_kept T.k_law_later_kept T.b_law_later_kept .nil pass0 (pa_cons (cv 11) (pa_cons (cv 3) (pa_cons (cv 4) (pa_cons (cv 6) (pa_cons (cv 8) pa_nil)))))))) (pw_or1 (pt_not (ct_val (pe_call (ok_law_later_named T) (hr.mono (by decide)) rfl T.m_law_later_named T.k_law_later_named T.b_law_later_named .nil pass0 (pa_cons (cv 3) (pa_cons (cv 4) (pa_cons (cv 6) (pa_cons (cv 8) pa_nil))))))))))
          (pss_one (ps_ret pe_bl))
          pss_nil)
        (pss_cons (cs_if (pt_not (ct_val (pe_call (ok_law_kept T) (hr.mono (by decide)) rfl T.m_law_kept T.k_law_kept T.b_law_kept .nil pass0 (pa_cons (cv 10) (pa_cons (cv 3) (pa_cons (cv 4) (pa_cons (cv 6) (pa_cons (cv 8) (pa_cons (cv 9) pa_nil)))))))))
          (pss_one (ps_ret pe_bl))
          pss_nil)
        (pss_one (cs_if (pt_not (ct_val (pe_call (ok_law_named T) (hr.mono (by decide)) rfl T.m_law_named T.k_law_named T.b_law_named .nil pass0 (pa_cons (cv 3) (pa_cons (cv 4) (pa_cons (cv 6) (pa_cons (cv 8) (pa_cons (cv 9) pa_nil))))))))
          (pss_one (ps_ret pe_bl))
          pss_nil)))))))))))))))))))))
      (pss_one (ps_ret pe_bl)), ?_⟩
    tm_at "w"
    refine ⟨_, .inl ha, ?_⟩
    rw [List.length_map]
    refine ⟨_, rfl, by omega, by omega, ?_⟩
    refine for_range (lo := 0) (n := (max 1 (min 3 (ns.length : Int))).toNat) (fun i σ H' => ∃ (u1 u2 u3 u4 u5 u6 u7 u8 u9 u10 u11 u12 u13 u14 u15 : Option V), σ = [some (.ref a), u1, u2, u3, u4, u5, u6, u7, u8, u9, u10, u11, u12, u13, u14, u15] ∧ Same H H') ⟨_, _, _, _, _, _, _, _, _, _, _, _, _, _, _, rfl, Same.refl _⟩ ?_ (fun σ H' _ => q H')
    rintro i σ H1 hi ⟨u1, u2, u3, u4, u5, u6, u7, u8, u9, u10, u11, u12, u13, u14, u15, rfl, s1⟩
    refine ⟨a, _, ns, rfl, s1.seq ha, hns, by omega, by omega, fun s xs hs hx => ?_⟩
    have hs0 : H s = none := s1.free hs
    tm_at "w"
    refine ⟨pow_bits (a := 4) (by decide) (by decide) (by decide) (by decide), ?_⟩
    tm_at "w"
    refine ⟨s, _, _, xs, rfl, upd_same, hx, by decide, by decide, by decide, fun n ys1 hn0 hn1 hy1 => ?_⟩
    tm_at "w"
    refine ⟨s, _, _, ys1, rfl, upd_same, hy1, by decide, by decide, by decide, fun o ys2 ho0 ho1 hy2 => ?_⟩
    tm_at "w"
    refine ⟨⟨_, rfl⟩, ?_⟩
    tm_at "w"
    refine ⟨s, _, _, ys2, rfl, upd_same, hy2, by decide, by decide, by decide, fun c ys3 hc0 hc1 hy3 => ?_⟩
    tm_at "w"
    refine ⟨c, rfl, by omega, by omega, fun D hD => ?_⟩
    have fD : H D = none := s1.free (upd_none (upd_none (upd_none (upd_none hD))))
    have nDs : D ≠ s := upd_none_ne hD
    refine lc_range (lo := 0) (n := c.toNat) (fun j H' => ∃ (ts : List Str) (ys : List V), ts.length = j ∧ (∀ t ∈ ts, t.length = 1 ∧ PyData.strOk t = true) ∧ H' D = some (.lst (ts.map V.str)) ∧ H' s = some (.lst ys) ∧ SrcL (3 + j) ys ∧ Same H H') ?_ ?_ ?_
    · exact ⟨[], ys3, rfl, fun _ h => (nomatch h), upd_same, upd_oth nDs.symm upd_same, hy3.mono (by omega), ((((((s1.wr hs0).wr hs0).wr hs0).wr hs0)).wr fD)⟩
    · rintro j H' hj ⟨ts, ys, hl, ht, g1, g2, g3, g4⟩
      tm_at "w"
      refine ⟨rfl, ?_⟩
      tm_at "w"
      refine ⟨by decide, s, _, _, ys, rfl, g2, g3, by omega, by decide, by decide, fun d ys4 hd0 hd1 hy4 => ?_⟩
      tm_at "w"
      obtain ⟨cc, hc2, hc3⟩ := atI_mem (xs := (Str.ofString "abzAZ (*~)0123>=@/").cps.toList) hd0 hd1
      refine ⟨cc, by decide, hc3, _, upd_oth nDs g1, by rw [List.length_map, sizeLine_eq]; omega, ts ++ [⟨#[cc]⟩], ys4, by rw [List.length_append, hl]; rfl, fun t ht' => ?_, by rw [upd_same, List.map_append]; rfl, upd_oth nDs.symm upd_same, hy4.mono (by omega), (g4.wr hs0).wr fD⟩
      rcases List.mem_append.mp ht' with h | h
      · exact ht t h
      · rw [List.mem_singleton.mp h]; exact one_ok (by decide +kernel) hc2
    rintro H2 ⟨ts, ys, hl, ht, g1, g2, g3, g4⟩
    refine ⟨_, D, ts, rfl, rfl, .inl (SqL.of g1), by rw [join_sum ht]; show ts.length + ts.length * 0 ≤ _; omega, ?_⟩
    rw [TL.join_eq]
    obtain ⟨l1, l2⟩ := join_ok (e := Str.ofString "") rfl (by decide +kernel) ht
    generalize Str.join (Str.ofString "") ts = t at l1 l2 ⊢
    tm_at "w"
    refine ⟨by rw [sizeLine_eq]; show 1 + t.length ≤ _; omega, ?_⟩
    have l3 : (Str.ofString "x" ++ t).length ≤ 60 := by rw [str_len_app]; show 1 + t.length ≤ _; omega
    have l4 : PyData.strOk (Str.ofString "x" ++ t) = true := strOk_app (by decide +kernel) l2
    have l0 : t.length ≤ 60 := by omega
    generalize Str.ofString "x" ++ t = m at l3 l4 ⊢
    refine ⟨fun σ' H' => ∃ p2, σ' = [some (.ref a), some (.int (0 + (i : Int))), some (.ref s), some (.int n), some (.int (0 - o)), some (.str (Str.ofString "abzAZ (*~)0123>=@/")), some (.str t), u7, some (.str m), some (.ref p2), u10, u11, u12, u13, u14, u15] ∧ Same H H' ∧ ∃ k0 : Nat, k0 ≤ 100 ∧ SqT K H' p2 ((List.replicate k0 t).map V.str), ?_, ?_⟩
    tm_at "w"
    refine ⟨by show 1 ≤ sizeLine; decide, fun p0 hp0 => ?_⟩
    have n0s : p0 ≠ s := (ne_of_none g2 hp0).symm
    have f0 : H p0 = none := g4.free hp0
    tm_at "w"
    refine ⟨s, _, _, ys, rfl, upd_oth n0s.symm g2, g3, by omega, by decide, by decide, fun k ys5 hk0 hk1 hy5 => ?_⟩
    tm_at "w"
    refine ⟨p0, k, _, rfl, rfl, upd_oth n0s upd_same, by omega, by omega, by show 1 * k.toNat ≤ _; rw [sizeLine_eq]; omega, fun p1 hp1 => ?_⟩
    tm_at "w"
    refine ⟨_, .inl ⟨SqL.of upd_same, fun p2 hp2 => ?_⟩⟩
    have f1 : H p1 = none := g4.free (upd_none (upd_none hp1))
    have f2 : H p2 = none := g4.free (upd_none (upd_none (upd_none hp2)))
    have sB : Same H (upd (upd (upd (upd H2 p0 (.lst [.str t])) s (.lst ys5)) p1 (.lst (List.replicate k.toNat [V.str t]).flatten)) p2 (.tup (List.replicate k.toNat [V.str t]).flatten)) := (((g4.wr f0).wr hs0).wr f1).wr f2
    have hl : SqT K (upd (upd (upd (upd H2 p0 (.lst [.str t])) s (.lst ys5)) p1 (.lst (List.replicate k.toNat [V.str t]).flatten)) p2 (.tup (List.replicate k.toNat [V.str t]).flatten)) p2 ((List.replicate k.toNat t).map V.str) := by
      rw [List.map_replicate, ← rep_flat]; exact SqT.of upd_same
    exact ⟨p2, rfl, sB, _, by omega, hl⟩
    clear g1 g2 g3 g4
    rintro σ' HB ⟨p2, rfl, sB, k0, hk0, hl⟩
    have hnI : (0 ≤ n ∧ n < 10 ^ 18) ∨ (-60 ≤ n ∧ n ≤ 0) := .inl ⟨hn0, Int.lt_trans hn1 (by decide)⟩
    have hoI : (0 ≤ 0 - o ∧ 0 - o < 10 ^ 18) ∨ (-60 ≤ 0 - o ∧ 0 - o ≤ 0) := .inr ⟨by omega, by omega⟩
    tm_at "w"
    refine ⟨rfl, rfl, by decide, mk1 (show Fmt (.str t) from l0) fun a0 G1 sm0 e0 => ?_⟩
    tm_at "w"
    refine ⟨rfl, rfl, by decide, mk1 (show Fmt (.str t) from l0) fun a1 G2 sm1 e1 => ?_⟩
    tm_at "w"
    refine ⟨rfl, rfl, by decide, mk1 (show Fmt (.str m) from l3) fun a2 G3 sm2 e2 => ?_⟩
    tm_at "w"
    refine ⟨rfl, rfl, by decide, mk1 (show Fmt (.int n) from hnI) fun a3 G4 sm3 e3 => ?_⟩
    tm_at "w"
    refine ⟨rfl, rfl, by decide, mk1 (show Fmt (.str t) from l0) fun a4 G5 sm4 e4 => ?_⟩
    tm_at "w"
    refine ⟨rfl, rfl, by decide, mk2 (show Fmt (.str m) from l3) (show Fmt (.int (0 - o)) from hoI) fun a5 G6 sm5 e5 => ?_⟩
    tm_at "w"
    refine ⟨by show 6 ≤ sizeLine; decide, fun q6 hq6 => ?_⟩
    tm_at "w"
    refine ⟨rfl, rfl, by decide, mk1 (show Fmt (.str t) from l0) fun a7 G8 sm7 e7 => ?_⟩
    tm_at "w"
    refine ⟨rfl, rfl, by decide, mk1 (show Fmt (.int n) from hnI) fun a8 G9 sm8 e8 => ?_⟩
    tm_at "w"
    refine ⟨rfl, rfl, by decide, mk1 (show Fmt (.int (0 - o)) from hoI) fun a9 G10 sm9 e9 => ?_⟩
    tm_at "w"
    refine ⟨rfl, rfl, by decide, mk1 (show Fmt (.int n) from hnI) fun a10 G11 sm10 e10 => ?_⟩
    tm_at "w"
    refine ⟨rfl, rfl, by decide, mk2 (show Fmt (.str t) from l0) (show Fmt (.str m) from l3) fun a11 G12 sm11 e11 => ?_⟩
    tm_at "w"
    refine ⟨by show 5 ≤ sizeLine; decide, fun q12 hq12 => ?_⟩
    tm_at "w"
    refine .inl ⟨_, _, (Same.get (Same.trans (Same.trans (Same.trans (Same.trans (Same.trans sm7 sm8) sm9) sm10) sm11) (Same.new hq12)) upd_same), upd_same, by simp only [List.length_append, List.length_cons, List.length_nil]; decide, fun q13 hq13 => ?_⟩
    tm_at "w"
    refine ⟨rfl, rfl, by decide, mk2 (show Fmt (.str m) from l3) (show Fmt (.str t) from l0) fun a14 G15 sm14 e14 => ?_⟩
    tm_at "w"
    refine ⟨rfl, rfl, by decide, mk1 (show Fmt (.str t) from l0) fun a15 G16 sm15 e15 => ?_⟩
    tm_at "w"
    refine ⟨rfl, rfl, by decide, mkL (Same.seqT (Same.trans (Same.trans (Same.trans (Same.trans (Same.trans (Same.trans (Same.trans (Same.trans (Same.trans (Same.trans (Same.trans (Same.trans (Same.trans (Same.trans (Same.trans sm0 sm1) sm2) sm3) sm4) sm5) (Same.new hq6)) sm7) sm8) sm9) sm10) sm11) (Same.new hq12)) (Same.new hq13)) sm14) sm15) hl) (by rw [List.length_map, List.length_replicate]; omega) fun a16 G17 sm16 e16 => ?_⟩
    tm_at "w"
    refine ⟨rfl, rfl, by decide, mk0  fun a17 G18 sm17 e17 => ?_⟩
    tm_at "w"
    refine ⟨rfl, rfl, by decide, mk0  fun a18 G19 sm18 e18 => ?_⟩
    tm_at "w"
    refine ⟨by show 5 ≤ sizeLine; decide, fun q19 hq19 => ?_⟩
    tm_at "w"
    refine .inl ⟨_, _, (Same.get (Same.trans (Same.trans (Same.trans (Same.trans (Same.trans sm14 sm15) sm16) sm17) sm18) (Same.new hq19)) upd_same), upd_same, by simp only [List.length_append, List.length_cons, List.length_nil]; decide, fun q20 hq20 => ?_⟩
    tm_at "w"
    refine ⟨rfl, rfl, by decide, mk1 (show Fmt (.int (0 - o)) from hoI) fun a21 G22 sm21 e21 => ?_⟩
    tm_at "w"
    refine ⟨rfl, rfl, by decide, mk1 (show Fmt (.str m) from l3) fun a22 G23 sm22 e22 => ?_⟩
    tm_at "w"
    refine ⟨by show 2 ≤ sizeLine; decide, fun q23 hq23 => ?_⟩
    tm_at "w"
    refine .inl ⟨_, _, (Same.get (Same.trans (Same.trans sm21 sm22) (Same.new hq23)) upd_same), upd_same, by simp only [List.length_append, List.length_cons, List.length_nil]; decide, fun q24 hq24 => ?_⟩
    tm_at "w"
    refine ⟨rfl, rfl, by decide, mk0  fun a25 G26 sm25 e25 => ?_⟩
    tm_at "w"
    refine ⟨rfl, rfl, by decide, mk1 (show Fmt (.str t) from l0) fun a26 G27 sm26 e26 => ?_⟩
    tm_at "w"
    refine ⟨rfl, rfl, by decide, mk2 (show Fmt (.int n) from hnI) (show Fmt (.int (0 - o)) from hoI) fun a27 G28 sm27 e27 => ?_⟩
    tm_at "w"
    refine ⟨rfl, rfl, by decide, mk1 (show Fmt (.str m) from l3) fun a28 G29 sm28 e28 => ?_⟩
    tm_at "w"
    refine ⟨rfl, rfl, by decide, mk1 (show Fmt (.int n) from hnI) fun a29 G30 sm29 e29 => ?_⟩
    tm_at "w"
    refine ⟨rfl, rfl, by decide, mk0  fun a30 G31 sm30 e30 => ?_⟩
    tm_at "w"
    refine ⟨by show 6 ≤ sizeLine; decide, fun q31 hq31 => ?_⟩
    tm_at "w"
    refine ⟨rfl, rfl, by decide, mk1 (show Fmt (.int (0 - o)) from hoI) fun a32 G33 sm32 e32 => ?_⟩
    tm_at "w"
    refine ⟨rfl, rfl, by decide, mk1 (show Fmt (.int n) from hnI) fun a33 G34 sm33 e33 => ?_⟩
    tm_at "w"
    refine ⟨rfl, rfl, by decide, mk2 (show Fmt (.str t) from l0) (show Fmt (.int n) from hnI) fun a34 G35 sm34 e34 => ?_⟩
    tm_at "w"
    refine ⟨rfl, rfl, by decide, mk2 (show Fmt (.str m) from l3) (show Fmt (.int (0 - o)) from hoI) fun a35 G36 sm35 e35 => ?_⟩
    tm_at "w"
    refine ⟨rfl, rfl, by decide, mk0  fun a36 G37 sm36 e36 => ?_⟩
    tm_at "w"
    refine ⟨by show 5 ≤ sizeLine; decide, fun q37 hq37 => ?_⟩
    tm_at "w"
    refine .inl ⟨_, _, (Same.get (Same.trans (Same.trans (Same.trans (Same.trans (Same.trans sm32 sm33) sm34) sm35) sm36) (Same.new hq37)) upd_same), upd_same, by simp only [List.length_append, List.length_cons, List.length_nil]; decide, fun q38 hq38 => ?_⟩
    refine ⟨fun σ' H' => ∃ (qE qL : Addr) (esE esL : List V), σ' = [some (.ref a), some (.int (0 + (i : Int))), some (.ref s), some (.int n), some (.int (0 - o)), some (.str (Str.ofString "abzAZ (*~)0123>=@/")), some (.str t), u7, some (.str m), some (.ref p2), some (.ref qE), some (.ref qL), u12, u13, u14, u15] ∧ Same H H' ∧ SqT K H' p2 ((List.replicate k0 t).map V.str) ∧ H' qE = some (.lst esE) ∧ ErrsAt H' (specE ad n (0 - o) t m p2) esE ∧ H' qL = some (.lst esL) ∧ ErrsAt H' (specL ad n (0 - o) t m) esL, ?_, ?_⟩
    tm_at "w"
    refine ⟨rfl, rfl, by decide, mk1 (show Fmt (.str t) from l0) fun a39 G40 sm39 e39 => ?_⟩
    tm_at "w"
    refine ⟨rfl, rfl, by decide, mk1 (show Fmt (.str m) from l3) fun a40 G41 sm40 e40 => ?_⟩
    tm_at "w"
    refine ⟨rfl, rfl, by decide, mk1 (show Fmt (.str t) from l0) fun a41 G42 sm41 e41 => ?_⟩
    tm_at "w"
    refine ⟨rfl, rfl, by decide, mk1 (show Fmt (.str m) from l3) fun a42 G43 sm42 e42 => ?_⟩
    tm_at "w"
    refine ⟨rfl, rfl, by decide, mk0  fun a43 G44 sm43 e43 => ?_⟩
    tm_at "w"
    refine ⟨by show 5 ≤ sizeLine; decide, fun q44 hq44 => ?_⟩
    tm_at "w"
    refine .inl ⟨_, _, (Same.get (Same.trans (Same.trans (Same.trans (Same.trans (Same.trans sm39 sm40) sm41) sm42) sm43) (Same.new hq44)) upd_same), upd_same, by simp only [List.length_append, List.length_cons, List.length_nil]; decide, fun q45 hq45 => ?_⟩
    have sT := fun oo => (Same.trans (Same.trans (Same.trans (Same.trans (Same.trans (Same.trans (Same.trans (Same.trans (Same.trans (Same.trans (Same.trans (Same.trans (Same.trans (Same.trans (Same.trans (Same.trans (Same.trans (Same.trans (Same.trans (Same.trans (Same.trans (Same.trans (Same.trans (Same.trans (Same.trans (Same.trans (Same.trans (Same.trans (Same.trans (Same.trans (Same.trans (Same.trans (Same.trans (Same.trans (Same.trans (Same.trans (Same.trans (Same.trans (Same.trans (Same.trans (Same.trans (Same.trans (Same.trans (Same.trans (Same.trans sm0 sm1) sm2) sm3) sm4) sm5) (Same.new hq6)) sm7) sm8) sm9) sm10) sm11) (Same.new hq12)) (Same.new hq13)) sm14) sm15) sm16) sm17) sm18) (Same.new hq19)) (Same.new hq20)) sm21) sm22) (Same.new hq23)) (Same.new hq24)) sm25) sm26) sm27) sm28) sm29) sm30) (Same.new hq31)) sm32) sm33) sm34) sm35) sm36) (Same.new hq37)) (Same.new hq38)) sm39) sm40) sm41) sm42) sm43) (Same.new hq44)) (Same.new (o := oo) hq45))
    -- _law_errors lies at q24
    have x_errors := fun oo => Same.get (Same.trans (Same.trans (Same.trans (Same.trans (Same.trans (Same.trans (Same.trans (Same.trans (Same.trans (Same.trans (Same.trans (Same.trans (Same.trans (Same.trans (Same.trans (Same.trans (Same.trans (Same.trans (Same.trans (Same.trans sm25 sm26) sm27) sm28) sm29) sm30) (Same.new hq31)) sm32) sm33) sm34) sm35) sm36) (Same.new hq37)) (Same.new hq38)) sm39) sm40) sm41) sm42) sm43) (Same.new hq44)) (Same.new (o := oo) hq45)) upd_same
    have y_errors := fun oo => (show ErrsAt _ (specE ad n (0 - o) t m p2) _ from ⟨_, _, rfl, ErrAt.same e0 (Same.trans (Same.trans (Same.trans (Same.trans (Same.trans (Same.trans (Same.trans (Same.trans (Same.trans (Same.trans (Same.trans (Same.trans (Same.trans (Same.trans (Same.trans (Same.trans (Same.trans (Same.trans (Same.trans (Same.trans (Same.trans (Same.trans (Same.trans (Same.trans (Same.trans (Same.trans (Same.trans (Same.trans (Same.trans (Same.trans (Same.trans (Same.trans (Same.trans (Same.trans (Same.trans (Same.trans (Same.trans (Same.trans (Same.trans (Same.trans (Same.trans (Same.trans (Same.trans (Same.trans sm1 sm2) sm3) sm4) sm5) (Same.new hq6)) sm7) sm8) sm9) sm10) sm11) (Same.new hq12)) (Same.new hq13)) sm14) sm15) sm16) sm17) sm18) (Same.new hq19)) (Same.new hq20)) sm21) sm22) (Same.new hq23)) (Same.new hq24)) sm25) sm26) sm27) sm28) sm29) sm30) (Same.new hq31)) sm32) sm33) sm34) sm35) sm36) (Same.new hq37)) (Same.new hq38)) sm39) sm40) sm41) sm42) sm43) (Same.new hq44)) (Same.new (o := oo) hq45)), ⟨_, _, rfl, ErrAt.same e1 (Same.trans (Same.trans (Same.trans (Same.trans (Same.trans (Same.trans (Same.trans (Same.trans (Same.trans (Same.trans (Same.trans (Same.trans (Same.trans (Same.trans (Same.trans (Same.trans (Same.trans (Same.trans (Same.trans (Same.trans (Same.trans (Same.trans (Same.trans (Same.trans (Same.trans (Same.trans (Same.trans (Same.trans (Same.trans (Same.trans (Same.trans (Same.trans (Same.trans (Same.trans (Same.trans (Same.trans (Same.trans (Same.trans (Same.trans (Same.trans (Same.trans (Same.trans (Same.trans sm2 sm3) sm4) sm5) (Same.new hq6)) sm7) sm8) sm9) sm10) sm11) (Same.new hq12)) (Same.new hq13)) sm14) sm15) sm16) sm17) sm18) (Same.new hq19)) (Same.new hq20)) sm21) sm22) (Same.new hq23)) (Same.new hq24)) sm25) sm26) sm27) sm28) sm29) sm30) (Same.new hq31)) sm32) sm33) sm34) sm35) sm36) (Same.new hq37)) (Same.new hq38)) sm39) sm40) sm41) sm42) sm43) (Same.new hq44)) (Same.new (o := oo) hq45)), ⟨_, _, rfl, ErrAt.same e2 (Same.trans (Same.trans (Same.trans (Same.trans (Same.trans (Same.trans (Same.trans (Same.trans (Same.trans (Same.trans (Same.trans (Same.trans (Same.trans (Same.trans (Same.trans (Same.trans (Same.trans (Same.trans (Same.trans (Same.trans (Same.trans (Same.trans (Same.trans (Same.trans (Same.trans (Same.trans (Same.trans (Same.trans (Same.trans (Same.trans (Same.trans (Same.trans (Same.trans (Same.trans (Same.trans (Same.trans (Same.trans (Same.trans (Same.trans (Same.trans (Same.trans (Same.trans sm3 sm4) sm5) (Same.new hq6)) sm7) sm8) sm9) sm10) sm11) (Same.new hq12)) (Same.new hq13)) sm14) sm15) sm16) sm17) sm18) (Same.new hq19)) (Same.new hq20)) sm21) sm22) (Same.new hq23)) (Same.new hq24)) sm25) sm26) sm27) sm28) sm29) sm30) (Same.new hq31)) sm32) sm33) sm34) sm35) sm36) (Same.new hq37)) (Same.new hq38)) sm39) sm40) sm41) sm42) sm43) (Same.new hq44)) (Same.new (o := oo) hq45)), ⟨_, _, rfl, ErrAt.same e3 (Same.trans (Same.trans (Same.trans (Same.trans (Same.trans (Same.trans (Same.trans (Same.trans (Same.trans (Same.trans (Same.trans (Same.trans (Same.trans (Same.trans (Same.trans (Same.trans (Same.trans (Same.trans (Same.trans (Same.trans (Same.trans (Same.trans (Same.trans (Same.trans (Same.trans (Same.trans (Same.trans (Same.trans (Same.trans (Same.trans (Same.trans (Same.trans (Same.trans (Same.trans (Same.trans (Same.trans (Same.trans (Same.trans (Same.trans (Same.trans (Same.trans sm4 sm5) (Same.new hq6)) sm7) sm8) sm9) sm10) sm11) (Same.new hq12)) (Same.new hq13)) sm14) sm15) sm16) sm17) sm18) (Same.new hq19)) (Same.new hq20)) sm21) sm22) (Same.new hq23)) (Same.new hq24)) sm25) sm26) sm27) sm28) sm29) sm30) (Same.new hq31)) sm32) sm33) sm34) sm35) sm36) (Same.new hq37)) (Same.new hq38)) sm39) sm40) sm41) sm42) sm43) (Same.new hq44)) (Same.new (o := oo) hq45)), ⟨_, _, rfl, ErrAt.same e4 (Same.trans (Same.trans (Same.trans (Same.trans (Same.trans (Same.trans (Same.trans (Same.trans (Same.trans (Same.trans (Same.trans (Same.trans (Same.trans (Same.trans (Same.trans (Same.trans (Same.trans (Same.trans (Same.trans (Same.trans (Same.trans (Same.trans (Same.trans (Same.trans (Same.trans (Same.trans (Same.trans (Same.trans (Same.trans (Same.trans (Same.trans (Same.trans (Same.trans (Same.trans (Same.trans (Same.trans (Same.trans (Same.trans (Same.trans (Same.trans sm5 (Same.new hq6)) sm7) sm8) sm9) sm10) sm11) (Same.new hq12)) (Same.new hq13)) sm14) sm15) sm16) sm17) sm18) (Same.new hq19)) (Same.new hq20)) sm21) sm22) (Same.new hq23)) (Same.new hq24)) sm25) sm26) sm27) sm28) sm29) sm30) (Same.new hq31)) sm32) sm33) sm34) sm35) sm36) (Same.new hq37)) (Same.new hq38)) sm39) sm40) sm41) sm42) sm43) (Same.new hq44)) (Same.new (o := oo) hq45)), ⟨_, _, rfl, ErrAt.same e5 (Same.trans (Same.trans (Same.trans (Same.trans (Same.trans (Same.trans (Same.trans (Same.trans (Same.trans (Same.trans (Same.trans (Same.trans (Same.trans (Same.trans (Same.trans (Same.trans (Same.trans (Same.trans (Same.trans (Same.trans (Same.trans (Same.trans (Same.trans (Same.trans (Same.trans (Same.trans (Same.trans (Same.trans (Same.trans (Same.trans (Same.trans (Same.trans (Same.trans (Same.trans (Same.trans (Same.trans (Same.trans (Same.trans (Same.trans (Same.new hq6) sm7) sm8) sm9) sm10) sm11) (Same.new hq12)) (Same.new hq13)) sm14) sm15) sm16) sm17) sm18) (Same.new hq19)) (Same.new hq20)) sm21) sm22) (Same.new hq23)) (Same.new hq24)) sm25) sm26) sm27) sm28) sm29) sm30) (Same.new hq31)) sm32) sm33) sm34) sm35) sm36) (Same.new hq37)) (Same.new hq38)) sm39) sm40) sm41) sm42) sm43) (Same.new hq44)) (Same.new (o := oo) hq45)), ⟨_, _, rfl, ErrAt.same e7 (Same.trans (Same.trans (Same.trans (Same.trans (Same.trans (Same.trans (Same.trans (Same.trans (Same.trans (Same.trans (Same.trans (Same.trans (Same.trans (Same.trans (Same.trans (Same.trans (Same.trans (Same.trans (Same.trans (Same.trans (Same.trans (Same.trans (Same.trans (Same.trans (Same.trans (Same.trans (Same.trans (Same.trans (Same.trans (Same.trans (Same.trans (Same.trans (Same.trans (Same.trans (Same.trans (Same.trans (Same.trans sm8 sm9) sm10) sm11) (Same.new hq12)) (Same.new hq13)) sm14) sm15) sm16) sm17) sm18) (Same.new hq19)) (Same.new hq20)) sm21) sm22) (Same.new hq23)) (Same.new hq24)) sm25) sm26) sm27) sm28) sm29) sm30) (Same.new hq31)) sm32) sm33) sm34) sm35) sm36) (Same.new hq37)) (Same.new hq38)) sm39) sm40) sm41) sm42) sm43) (Same.new hq44)) (Same.new (o := oo) hq45)), ⟨_, _, rfl, ErrAt.same e8 (Same.trans (Same.trans (Same.trans (Same.trans (Same.trans (Same.trans (Same.trans (Same.trans (Same.trans (Same.trans (Same.trans (Same.trans (Same.trans (Same.trans (Same.trans (Same.trans (Same.trans (Same.trans (Same.trans (Same.trans (Same.trans (Same.trans (Same.trans (Same.trans (Same.trans (Same.trans (Same.trans (Same.trans (Same.trans (Same.trans (Same.trans (Same.trans (Same.trans (Same.trans (Same.trans (Same.trans sm9 sm10) sm11) (Same.new hq12)) (Same.new hq13)) sm14) sm15) sm16) sm17) sm18) (Same.new hq19)) (Same.new hq20)) sm21) sm22) (Same.new hq23)) (Same.new hq24)) sm25) sm26) sm27) sm28) sm29) sm30) (Same.new hq31)) sm32) sm33) sm34) sm35) sm36) (Same.new hq37)) (Same.new hq38)) sm39) sm40) sm41) sm42) sm43) (Same.new hq44)) (Same.new (o := oo) hq45)), ⟨_, _, rfl, ErrAt.same e9 (Same.trans (Same.trans (Same.trans (Same.trans (Same.trans (Same.trans (Same.trans (Same.trans (Same.trans (Same.trans (Same.trans (Same.trans (Same.trans (Same.trans (Same.trans (Same.trans (Same.trans (Same.trans (Same.trans (Same.trans (Same.trans (Same.trans (Same.trans (Same.trans (Same.trans (Same.trans (Same.trans (Same.trans (Same.trans (Same.trans (Same.trans (Same.trans (Same.trans (Same.trans (Same.trans sm10 sm11) (Same.new hq12)) (Same.new hq13)) sm14) sm15) sm16) sm17) sm18) (Same.new hq19)) (Same.new hq20)) sm21) sm22) (Same.new hq23)) (Same.new hq24)) sm25) sm26) sm27) sm28) sm29) sm30) (Same.new hq31)) sm32) sm33) sm34) sm35) sm36) (Same.new hq37)) (Same.new hq38)) sm39) sm40) sm41) sm42) sm43) (Same.new hq44)) (Same.new (o := oo) hq45)), ⟨_, _, rfl, ErrAt.same e10 (Same.trans (Same.trans (Same.trans (Same.trans (Same.trans (Same.trans (Same.trans (Same.trans (Same.trans (Same.trans (Same.trans (Same.trans (Same.trans (Same.trans (Same.trans (Same.trans (Same.trans (Same.trans (Same.trans (Same.trans (Same.trans (Same.trans (Same.trans (Same.trans (Same.trans (Same.trans (Same.trans (Same.trans (Same.trans (Same.trans (Same.trans (Same.trans (Same.trans (Same.trans sm11 (Same.new hq12)) (Same.new hq13)) sm14) sm15) sm16) sm17) sm18) (Same.new hq19)) (Same.new hq20)) sm21) sm22) (Same.new hq23)) (Same.new hq24)) sm25) sm26) sm27) sm28) sm29) sm30) (Same.new hq31)) sm32) sm33) sm34) sm35) sm36) (Same.new hq37)) (Same.new hq38)) sm39) sm40) sm41) sm42) sm43) (Same.new hq44)) (Same.new (o := oo) hq45)), ⟨_, _, rfl, ErrAt.same e11 (Same.trans (Same.trans (Same.trans (Same.trans (Same.trans (Same.trans (Same.trans (Same.trans (Same.trans (Same.trans (Same.trans (Same.trans (Same.trans (Same.trans (Same.trans (Same.trans (Same.trans (Same.trans (Same.trans (Same.trans (Same.trans (Same.trans (Same.trans (Same.trans (Same.trans (Same.trans (Same.trans (Same.trans (Same.trans (Same.trans (Same.trans (Same.trans (Same.trans (Same.new hq12) (Same.new hq13)) sm14) sm15) sm16) sm17) sm18) (Same.new hq19)) (Same.new hq20)) sm21) sm22) (Same.new hq23)) (Same.new hq24)) sm25) sm26) sm27) sm28) sm29) sm30) (Same.new hq31)) sm32) sm33) sm34) sm35) sm36) (Same.new hq37)) (Same.new hq38)) sm39) sm40) sm41) sm42) sm43) (Same.new hq44)) (Same.new (o := oo) hq45)), ⟨_, _, rfl, ErrAt.same e14 (Same.trans (Same.trans (Same.trans (Same.trans (Same.trans (Same.trans (Same.trans (Same.trans (Same.trans (Same.trans (Same.trans (Same.trans (Same.trans (Same.trans (Same.trans (Same.trans (Same.trans (Same.trans (Same.trans (Same.trans (Same.trans (Same.trans (Same.trans (Same.trans (Same.trans (Same.trans (Same.trans (Same.trans (Same.trans (Same.trans sm15 sm16) sm17) sm18) (Same.new hq19)) (Same.new hq20)) sm21) sm22) (Same.new hq23)) (Same.new hq24)) sm25) sm26) sm27) sm28) sm29) sm30) (Same.new hq31)) sm32) sm33) sm34) sm35) sm36) (Same.new hq37)) (Same.new hq38)) sm39) sm40) sm41) sm42) sm43) (Same.new hq44)) (Same.new (o := oo) hq45)), ⟨_, _, rfl, ErrAt.same e15 (Same.trans (Same.trans (Same.trans (Same.trans (Same.trans (Same.trans (Same.trans (Same.trans (Same.trans (Same.trans (Same.trans (Same.trans (Same.trans (Same.trans (Same.trans (Same.trans (Same.trans (Same.trans (Same.trans (Same.trans (Same.trans (Same.trans (Same.trans (Same.trans (Same.trans (Same.trans (Same.trans (Same.trans (Same.trans sm16 sm17) sm18) (Same.new hq19)) (Same.new hq20)) sm21) sm22) (Same.new hq23)) (Same.new hq24)) sm25) sm26) sm27) sm28) sm29) sm30) (Same.new hq31)) sm32) sm33) sm34) sm35) sm36) (Same.new hq37)) (Same.new hq38)) sm39) sm40) sm41) sm42) sm43) (Same.new hq44)) (Same.new (o := oo) hq45)), ⟨_, _, rfl, ErrAt.same e16 (Same.trans (Same.trans (Same.trans (Same.trans (Same.trans (Same.trans (Same.trans (Same.trans (Same.trans (Same.trans (Same.trans (Same.trans (Same.trans (Same.trans (Same.trans (Same.trans (Same.trans (Same.trans (Same.trans (Same.trans (Same.trans (Same.trans (Same.trans (Same.trans (Same.trans (Same.trans (Same.trans (Same.trans sm17 sm18) (Same.new hq19)) (Same.new hq20)) sm21) sm22) (Same.new hq23)) (Same.new hq24)) sm25) sm26) sm27) sm28) sm29) sm30) (Same.new hq31)) sm32) sm33) sm34) sm35) sm36) (Same.new hq37)) (Same.new hq38)) sm39) sm40) sm41) sm42) sm43) (Same.new hq44)) (Same.new (o := oo) hq45)), ⟨_, _, rfl, ErrAt.same e17 (Same.trans (Same.trans (Same.trans (Same.trans (Same.trans (Same.trans (Same.trans (Same.trans (Same.trans (Same.trans (Same.trans (Same.trans (Same.trans (Same.trans (Same.trans (Same.trans (Same.trans (Same.trans (Same.trans (Same.trans (Same.trans (Same.trans (Same.trans (Same.trans (Same.trans (Same.trans (Same.trans sm18 (Same.new hq19)) (Same.new hq20)) sm21) sm22) (Same.new hq23)) (Same.new hq24)) sm25) sm26) sm27) sm28) sm29) sm30) (Same.new hq31)) sm32) sm33) sm34) sm35) sm36) (Same.new hq37)) (Same.new hq38)) sm39) sm40) sm41) sm42) sm43) (Same.new hq44)) (Same.new (o := oo) hq45)), ⟨_, _, rfl, ErrAt.same e18 (Same.trans (Same.trans (Same.trans (Same.trans (Same.trans (Same.trans (Same.trans (Same.trans (Same.trans (Same.trans (Same.trans (Same.trans (Same.trans (Same.trans (Same.trans (Same.trans (Same.trans (Same.trans (Same.trans (Same.trans (Same.trans (Same.trans (Same.trans (Same.trans (Same.trans (Same.trans (Same.new hq19) (Same.new hq20)) sm21) sm22) (Same.new hq23)) (Same.new hq24)) sm25) sm26) sm27) sm28) sm29) sm30) (Same.new hq31)) sm32) sm33) sm34) sm35) sm36) (Same.new hq37)) (Same.new hq38)) sm39) sm40) sm41) sm42) sm43) (Same.new hq44)) (Same.new (o := oo) hq45)), ⟨_, _, rfl, ErrAt.same e21 (Same.trans (Same.trans (Same.trans (Same.trans (Same.trans (Same.trans (Same.trans (Same.trans (Same.trans (Same.trans (Same.trans (Same.trans (Same.trans (Same.trans (Same.trans (Same.trans (Same.trans (Same.trans (Same.trans (Same.trans (Same.trans (Same.trans (Same.trans sm22 (Same.new hq23)) (Same.new hq24)) sm25) sm26) sm27) sm28) sm29) sm30) (Same.new hq31)) sm32) sm33) sm34) sm35) sm36) (Same.new hq37)) (Same.new hq38)) sm39) sm40) sm41) sm42) sm43) (Same.new hq44)) (Same.new (o := oo) hq45)), ⟨_, _, rfl, ErrAt.same e22 (Same.trans (Same.trans (Same.trans (Same.trans (Same.trans (Same.trans (Same.trans (Same.trans (Same.trans (Same.trans (Same.trans (Same.trans (Same.trans (Same.trans (Same.trans (Same.trans (Same.trans (Same.trans (Same.trans (Same.trans (Same.trans (Same.trans (Same.new hq23) (Same.new hq24)) sm25) sm26) sm27) sm28) sm29) sm30) (Same.new hq31)) sm32) sm33) sm34) sm35) sm36) (Same.new hq37)) (Same.new hq38)) sm39) sm40) sm41) sm42) sm43) (Same.new hq44)) (Same.new (o := oo) hq45)), rfl⟩⟩⟩⟩⟩⟩⟩⟩⟩⟩⟩⟩⟩⟩⟩⟩⟩⟩)
    -- _law_later lies at q45
    have y_later := fun oo => (show ErrsAt _ (specL ad n (0 - o) t m) _ from ⟨_, _, rfl, ErrAt.same e25 (Same.trans (Same.trans (Same.trans (Same.trans (Same.trans (Same.trans (Same.trans (Same.trans (Same.trans (Same.trans (Same.trans (Same.trans (Same.trans (Same.trans (Same.trans (Same.trans (Same.trans (Same.trans (Same.trans sm26 sm27) sm28) sm29) sm30) (Same.new hq31)) sm32) sm33) sm34) sm35) sm36) (Same.new hq37)) (Same.new hq38)) sm39) sm40) sm41) sm42) sm43) (Same.new hq44)) (Same.new (o := oo) hq45)), ⟨_, _, rfl, ErrAt.same e26 (Same.trans (Same.trans (Same.trans (Same.trans (Same.trans (Same.trans (Same.trans (Same.trans (Same.trans (Same.trans (Same.trans (Same.trans (Same.trans (Same.trans (Same.trans (Same.trans (Same.trans (Same.trans sm27 sm28) sm29) sm30) (Same.new hq31)) sm32) sm33) sm34) sm35) sm36) (Same.new hq37)) (Same.new hq38)) sm39) sm40) sm41) sm42) sm43) (Same.new hq44)) (Same.new (o := oo) hq45)), ⟨_, _, rfl, ErrAt.same e27 (Same.trans (Same.trans (Same.trans (Same.trans (Same.trans (Same.trans (Same.trans (Same.trans (Same.trans (Same.trans (Same.trans (Same.trans (Same.trans (Same.trans (Same.trans (Same.trans (Same.trans sm28 sm29) sm30) (Same.new hq31)) sm32) sm33) sm34) sm35) sm36) (Same.new hq37)) (Same.new hq38)) sm39) sm40) sm41) sm42) sm43) (Same.new hq44)) (Same.new (o := oo) hq45)), ⟨_, _, rfl, ErrAt.same e28 (Same.trans (Same.trans (Same.trans (Same.trans (Same.trans (Same.trans (Same.trans (Same.trans (Same.trans (Same.trans (Same.trans (Same.trans (Same.trans (Same.trans (Same.trans (Same.trans sm29 sm30) (Same.new hq31)) sm32) sm33) sm34) sm35) sm36) (Same.new hq37)) (Same.new hq38)) sm39) sm40) sm41) sm42) sm43) (Same.new hq44)) (Same.new (o := oo) hq45)), ⟨_, _, rfl, ErrAt.same e29 (Same.trans (Same.trans (Same.trans (Same.trans (Same.trans (Same.trans (Same.trans (Same.trans (Same.trans (Same.trans (Same.trans (Same.trans (Same.trans (Same.trans (Same.trans sm30 (Same.new hq31)) sm32) sm33) sm34) sm35) sm36) (Same.new hq37)) (Same.new hq38)) sm39) sm40) sm41) sm42) sm43) (Same.new hq44)) (Same.new (o := oo) hq45)), ⟨_, _, rfl, ErrAt.same e30 (Same.trans (Same.trans (Same.trans (Same.trans (Same.trans (Same.trans (Same.trans (Same.trans (Same.trans (Same.trans (Same.trans (Same.trans (Same.trans (Same.trans (Same.new hq31) sm32) sm33) sm34) sm35) sm36) (Same.new hq37)) (Same.new hq38)) sm39) sm40) sm41) sm42) sm43) (Same.new hq44)) (Same.new (o := oo) hq45)), ⟨_, _, rfl, ErrAt.same e32 (Same.trans (Same.trans (Same.trans (Same.trans (Same.trans (Same.trans (Same.trans (Same.trans (Same.trans (Same.trans (Same.trans (Same.trans sm33 sm34) sm35) sm36) (Same.new hq37)) (Same.new hq38)) sm39) sm40) sm41) sm42) sm43) (Same.new hq44)) (Same.new (o := oo) hq45)), ⟨_, _, rfl, ErrAt.same e33 (Same.trans (Same.trans (Same.trans (Same.trans (Same.trans (Same.trans (Same.trans (Same.trans (Same.trans (Same.trans (Same.trans sm34 sm35) sm36) (Same.new hq37)) (Same.new hq38)) sm39) sm40) sm41) sm42) sm43) (Same.new hq44)) (Same.new (o := oo) hq45)), ⟨_, _, rfl, ErrAt.same e34 (Same.trans (Same.trans (Same.trans (Same.trans (Same.trans (Same.trans (Same.trans (Same.trans (Same.trans (Same.trans sm35 sm36) (Same.new hq37)) (Same.new hq38)) sm39) sm40) sm41) sm42) sm43) (Same.new hq44)) (Same.new (o := oo) hq45)), ⟨_, _, rfl, ErrAt.same e35 (Same.trans (Same.trans (Same.trans (Same.trans (Same.trans (Same.trans (Same.trans (Same.trans (Same.trans sm36 (Same.new hq37)) (Same.new hq38)) sm39) sm40) sm41) sm42) sm43) (Same.new hq44)) (Same.new (o := oo) hq45)), ⟨_, _, rfl, ErrAt.same e36 (Same.trans (Same.trans (Same.trans (Same.trans (Same.trans (Same.trans (Same.trans (Same.trans (Same.new hq37) (Same.new hq38)) sm39) sm40) sm41) sm42) sm43) (Same.new hq44)) (Same.new (o := oo) hq45)), ⟨_, _, rfl, ErrAt.same e39 (Same.trans (Same.trans (Same.trans (Same.trans (Same.trans sm40 sm41) sm42) sm43) (Same.new hq44)) (Same.new (o := oo) hq45)), ⟨_, _, rfl, ErrAt.same e40 (Same.trans (Same.trans (Same.trans (Same.trans sm41 sm42) sm43) (Same.new hq44)) (Same.new (o := oo) hq45)), ⟨_, _, rfl, ErrAt.same e41 (Same.trans (Same.trans (Same.trans sm42 sm43) (Same.new hq44)) (Same.new (o := oo) hq45)), ⟨_, _, rfl, ErrAt.same e42 (Same.trans (Same.trans sm43 (Same.new hq44)) (Same.new (o := oo) hq45)), ⟨_, _, rfl, ErrAt.same e43 (Same.trans (Same.new hq44) (Same.new (o := oo) hq45)), rfl⟩⟩⟩⟩⟩⟩⟩⟩⟩⟩⟩⟩⟩⟩⟩⟩)
    exact ⟨q24, q45, _, _, rfl, sB.trans (sT _), (sT _).seqT hl, x_errors _, y_errors _, upd_same, y_later _⟩
    clear hl
    rintro σ' HC ⟨qE, qL, esE, esL, rfl, sC, hl, hE, yE, hL, yL⟩
    refine ⟨fun σ' H' => ∃ (D : Addr) (ls : List Addr), σ' = [some (.ref a), some (.int (0 + (i : Int))), some (.ref s), some (.int n), some (.int (0 - o)), some (.str (Str.ofString "abzAZ (*~)0123>=@/")), some (.str t), u7, some (.str m), some (.ref p2), some (.ref qE), some (.ref qL), some (.ref D), u13, u14, u15] ∧ ls.length = 34 ∧ H' D = some (.lst (ls.map V.ref)) ∧ (∀ i p, ls[i]? = some p → H' p = some (.lst ((rowOf i).map V.bl)) ∧ p ≠ D) ∧ Same HC H', ?_, ?_⟩
    tm_at "w"
    refine ⟨_, rfl, by decide, by decide, fun D hD => ?_⟩
    refine lc_range (lo := 0) (n := 34) (fun j H' => ∃ ls : List Addr, ls.length = j ∧ H' D = some (.lst (ls.map V.ref)) ∧ (∀ i p, ls[i]? = some p → H' p = some (.lst ((rowOf i).map V.bl)) ∧ p ≠ D) ∧ Same HC H') ?_ ?_ ?_
    · exact ⟨[], rfl, upd_same, fun i p h => (by simp at h), Same.new hD⟩
    · rintro j H' hj ⟨ls, hl1, g1', g2', g3'⟩
      refine ⟨rfl, ?_⟩
      tm_at "w"
      refine ⟨_, rfl, by decide, by decide, fun D2 hD2 => ?_⟩
      refine lc_range (lo := 0) (n := 36) (fun x H'' => H'' D2 = some (.lst (((List.range x).map fun y : Nat => decide ((0 : Int) + (j : Int) = 0 + (y : Int))).map V.bl)) ∧ Same H' H'') ?_ ?_ ?_
      · exact ⟨upd_same, Same.new hD2⟩
      · rintro x H'' hx' ⟨k1, k2⟩
        refine ⟨wipe_back, ?_⟩
        tm_at "w"
        refine ⟨_, k1, by rw [List.length_map, List.length_map, List.length_range, sizeLine_eq]; omega, ?_, ?_⟩
        · rw [upd_same, List.range_succ, List.map_append, List.map_append]; rfl
        · exact k2.wr hD2
      · rintro H'' ⟨k1, k2⟩
        have nD : D ≠ D2 := ne_of_none g1' hD2
        refine ⟨_, k2 _ _ g1', by rw [List.length_map, sizeLine_eq]; omega, ls ++ [D2], by rw [List.length_append, hl1]; rfl, by rw [upd_same, List.map_append]; rfl, fun i p hp => ?_, (g3'.trans k2).wr hD⟩
        rcases Nat.lt_or_ge i ls.length with h | h
        · rw [List.getElem?_append_left h] at hp
          obtain ⟨h1, h2⟩ := g2' i p hp
          exact ⟨upd_oth h2 (k2 _ _ h1), h2⟩
        · rw [List.getElem?_append_right h] at hp
          have e0 : i - ls.length = 0 := by
            rcases Nat.eq_zero_or_pos (i - ls.length) with h0 | h0
            · exact h0
            · rw [List.getElem?_eq_none (by show 1 ≤ _; exact h0)] at hp; cases hp
          rw [e0] at hp
          cases hp
          have ei : i = j := by omega
          subst ei
          exact ⟨upd_oth nD.symm (by rw [k1, due_row hj]), nD.symm⟩
    · rintro H3 ⟨ls, hl1, g1', g2', g3'⟩
      exact ⟨D, ls, rfl, hl1, g1', g2', g3'⟩
    rintro σ' H3 ⟨D, ls, rfl, hl1, g1', g2', g3'⟩
    tm_at "w"
    refine .inl ?_
    tm_at "w"
    refine .inl ?_
    refine ⟨_, _, g3' _ _ hE, g3' _ _ hL, by rw [yE.len, yL.len]; show 34 ≤ sizeLine; decide, fun x0 hx0 => ?_⟩
    tm_at "w"
    refine ⟨x0, rfl, ⟨_, SqL.of upd_same⟩, fun D2 hD2 => ?_⟩
    have yA := (yE.app yL).same (g3'.trans (Same.new (o := .lst (esE ++ esL)) hx0))
    have nx2 : x0 ≠ D2 := ne_of_none upd_same hD2
    refine lc_list (a := x0) (xs := esE ++ esL) (fun j H' => ∃ ms : List Addr, ms.length = j ∧ H' D2 = some (.lst (ms.map V.ref)) ∧ (∀ i p, ms[i]? = some p → H' p = some (.lst ((rowOf i).map V.bl)) ∧ p ≠ D2) ∧ Same (upd H3 x0 (.lst (esE ++ esL))) H') ?_ ?_ ?_ ?_
    · exact ⟨[], rfl, upd_same, fun i p h => (by simp at h), Same.new hD2⟩
    · rintro j H' hj ⟨ms, m1, m2, m3, m4⟩
      exact SqL.of (m4 _ _ upd_same)
    · rintro j x H' hj ⟨ms, m1, m2, m3, m4⟩
      obtain ⟨ax, C, fs, rfl, hC, eA⟩ := yA.get hj
      have hC' : (clsL ad)[j]? = some C := by rw [← spec_cls (s := n) (o := 0 - o) (t := t) (m := m) (l := p2), List.getElem?_map, hC]; rfl
      obtain ⟨fI, ox⟩ := all_ox T C (List.mem_of_getElem? hC')
      refine ⟨wipe_back, ?_⟩
      tm_at "w"
      refine ⟨ax, C, fI, fs, j, rfl, eA.same m4, ox, hC', fun p H'' k1 k2 => ?_⟩
      have np : p ≠ D2 := by
        intro e
        rw [e, k1 _ _ m2] at k2
        have z := Option.some.inj k2
        have z2 : ms.map V.ref = (rowOf j).map V.bl := by injection z
        have z3 := congrArg List.length z2
        rw [List.length_map, List.length_map] at z3
        have hj34 : j < 34 := (List.getElem?_eq_some_iff.mp hC').1
        have : (rowOf j).length = 36 := by unfold rowOf; rw [List.length_append, List.length_map, List.length_range]; rfl
        omega
      refine ⟨_, k1 _ _ m2, by rw [List.length_map, sizeLine_eq]; have hj34 : j < 34 := (List.getElem?_eq_some_iff.mp hC').1; omega, ms ++ [p], by rw [List.length_append, m1]; rfl, by rw [upd_same, List.map_append]; rfl, fun i p' hp' => ?_, (m4.trans k1).wr hD2⟩
      rcases Nat.lt_or_ge i ms.length with h | h
      · rw [List.getElem?_append_left h] at hp'
        obtain ⟨h1, h2⟩ := m3 i p' hp'
        exact ⟨upd_oth h2 (k1 _ _ h1), h2⟩
      · rw [List.getElem?_append_right h] at hp'
        have e0 : i - ms.length = 0 := by
          rcases Nat.eq_zero_or_pos (i - ms.length) with h0 | h0
          · exact h0
          · rw [List.getElem?_eq_none (by show 1 ≤ _; exact h0)] at hp'; cases hp'
        rw [e0] at hp'
        cases hp'
        have ei : i = j := by omega
        subst ei
        exact ⟨upd_oth np k2, np⟩
    rintro H4 ⟨ms, m1, m2, m3, m4⟩
    have m1' : ms.length = 34 := by rw [m1, List.length_append, yE.len, yL.len]; rfl
    have s34 : Same H3 H4 := (Same.new hx0).trans m4
    refine .inr (ne_ok (ds := (List.range' 0 34).map fun i => PyData.list ((rowOf i).map PyData.bool)) (SqL.of m2) (SqL.of (s34 _ _ g1')) ?_ ?_ ?_)
    · rw [← m1']; exact okAll_rows fun i p h => by rw [Nat.zero_add]; exact (m3 i p h).1
    · rw [← hl1]; exact okAll_rows fun i p h => by rw [Nat.zero_add]; exact s34 _ _ (g2' i p h).1
    have sA := g3'.trans s34
    tm_at "w"
    refine ⟨fun z => (nomatch z), fun _ => ?_⟩
    tm_at "w"
    refine ⟨qL, n, 0 - o, t, m, esL, rfl, l2, l4, sA _ _ hL, yL.same sA, fun H5 s5 => ?_⟩
    tm_at "w"
    refine ⟨fun z => (nomatch z), fun _ => ?_⟩
    tm_at "w"
    refine ⟨n, 0 - o, t, m, rfl, l2, l4, hnI, hoI, l0, l3, fun H6 s6 => ?_⟩
    tm_at "w"
    refine ⟨fun z => (nomatch z), fun _ => ?_⟩
    have sK := (sA.trans s5).trans s6
    tm_at "w"
    refine ⟨qE, n, 0 - o, t, m, p2, esE, k0, rfl, l2, l4, sK.seqT hl, sK _ _ hE, yE.same sK, fun H7 s7 => ?_⟩
    tm_at "w"
    refine ⟨fun z => (nomatch z), fun _ => ?_⟩
    tm_at "w"
    refine ⟨n, 0 - o, t, m, p2, k0, rfl, l2, l4, hnI, hoI, l0, l3, hk0, (sK.trans s7).seqT hl, fun H8 s8 => ?_⟩
    tm_at "w"
    refine ⟨fun z => (nomatch z), fun _ => ?_⟩
    exact ⟨_, _, _, _, _, _, _, _, _, _, _, _, _, _, _, rfl, (((sC.trans sK).trans s7).trans s8)⟩
end
end Toy

namespace Toy
open PySem L2
theorem all_mk {K : PySem.W.Frag} {h : Heap} {mg : Str → Option Value} {fa : Addr} (X : K.In h) (G : h.Ns mainGlobals mg) (hfa : mg "law" = some (.ref fa))
    {c_SourceError c_BadName c_BadPath c_NoFile c_BadHunk c_BadPatch c_Refused c_Entangled c_BadSeries c_Stopped c_BadRecipe c_Outside c_Absent c_BadArchive c_NoPlan c_NoOrder c_NoPatch c_Clashed c_BadChoice c_BadJob c_BadPlan c_NoTurn c_NotClosed c_BadRelease c_NoRelease c_NoChoice c_BadSystem c_Occupied c_NotWaiting c_BadRecord c_Down c_Unrecorded c_Unchanged c_TooFew c_UnknownField : Addr}
    {f_BadName_XinitX : Addr} {od_BadName_XinitX an_BadName_XinitX : Option Addr} {sl_BadName_XinitX : Array (Option Value)} {oc_BadName_XinitX kV_BadName_XinitX dc_BadName_XinitX pm_BadName_XinitX cd_BadName_XinitX ct_BadName_XinitX : Value}
    {f_BadPath_XinitX : Addr} {od_BadPath_XinitX an_BadPath_XinitX : Option Addr} {sl_BadPath_XinitX : Array (Option Value)} {oc_BadPath_XinitX kV_BadPath_XinitX dc_BadPath_XinitX pm_BadPath_XinitX cd_BadPath_XinitX ct_BadPath_XinitX : Value}
    {f_NoFile_XinitX : Addr} {od_NoFile_XinitX an_NoFile_XinitX : Option Addr} {sl_NoFile_XinitX : Array (Option Value)} {oc_NoFile_XinitX kV_NoFile_XinitX dc_NoFile_XinitX pm_NoFile_XinitX cd_NoFile_XinitX ct_NoFile_XinitX : Value}
    {f_BadHunk_XinitX : Addr} {od_BadHunk_XinitX an_BadHunk_XinitX : Option Addr} {sl_BadHunk_XinitX : Array (Option Value)} {oc_BadHunk_XinitX kV_BadHunk_XinitX dc_BadHunk_XinitX pm_BadHunk_XinitX cd_BadHunk_XinitX ct_BadHunk_XinitX : Value}
    {f_BadPatch_XinitX : Addr} {od_BadPatch_XinitX an_BadPatch_XinitX : Option Addr} {sl_BadPatch_XinitX : Array (Option Value)} {oc_BadPatch_XinitX kV_BadPatch_XinitX dc_BadPatch_XinitX pm_BadPatch_XinitX cd_BadPatch_XinitX ct_BadPatch_XinitX : Value}
    {f_Refused_XinitX : Addr} {od_Refused_XinitX an_Refused_XinitX : Option Addr} {sl_Refused_XinitX : Array (Option Value)} {oc_Refused_XinitX kV_Refused_XinitX dc_Refused_XinitX pm_Refused_XinitX cd_Refused_XinitX ct_Refused_XinitX : Value}
    {f_Entangled_XinitX : Addr} {od_Entangled_XinitX an_Entangled_XinitX : Option Addr} {sl_Entangled_XinitX : Array (Option Value)} {oc_Entangled_XinitX kV_Entangled_XinitX dc_Entangled_XinitX pm_Entangled_XinitX cd_Entangled_XinitX ct_Entangled_XinitX : Value}
    {f_BadSeries_XinitX : Addr} {od_BadSeries_XinitX an_BadSeries_XinitX : Option Addr} {sl_BadSeries_XinitX : Array (Option Value)} {oc_BadSeries_XinitX kV_BadSeries_XinitX dc_BadSeries_XinitX pm_BadSeries_XinitX cd_BadSeries_XinitX ct_BadSeries_XinitX : Value}
    {f_Stopped_XinitX : Addr} {od_Stopped_XinitX an_Stopped_XinitX : Option Addr} {sl_Stopped_XinitX : Array (Option Value)} {oc_Stopped_XinitX kV_Stopped_XinitX dc_Stopped_XinitX pm_Stopped_XinitX cd_Stopped_XinitX ct_Stopped_XinitX : Value}
    {f_BadRecipe_XinitX : Addr} {od_BadRecipe_XinitX an_BadRecipe_XinitX : Option Addr} {sl_BadRecipe_XinitX : Array (Option Value)} {oc_BadRecipe_XinitX kV_BadRecipe_XinitX dc_BadRecipe_XinitX pm_BadRecipe_XinitX cd_BadRecipe_XinitX ct_BadRecipe_XinitX : Value}
    {f_Outside_XinitX : Addr} {od_Outside_XinitX an_Outside_XinitX : Option Addr} {sl_Outside_XinitX : Array (Option Value)} {oc_Outside_XinitX kV_Outside_XinitX dc_Outside_XinitX pm_Outside_XinitX cd_Outside_XinitX ct_Outside_XinitX : Value}
    {f_Absent_XinitX : Addr} {od_Absent_XinitX an_Absent_XinitX : Option Addr} {sl_Absent_XinitX : Array (Option Value)} {oc_Absent_XinitX kV_Absent_XinitX dc_Absent_XinitX pm_Absent_XinitX cd_Absent_XinitX ct_Absent_XinitX : Value}
    {f_BadArchive_XinitX : Addr} {od_BadArchive_XinitX an_BadArchive_XinitX : Option Addr} {sl_BadArchive_XinitX : Array (Option Value)} {oc_BadArchive_XinitX kV_BadArchive_XinitX dc_BadArchive_XinitX pm_BadArchive_XinitX cd_BadArchive_XinitX ct_BadArchive_XinitX : Value}
    {f_NoPlan_XinitX : Addr} {od_NoPlan_XinitX an_NoPlan_XinitX : Option Addr} {sl_NoPlan_XinitX : Array (Option Value)} {oc_NoPlan_XinitX kV_NoPlan_XinitX dc_NoPlan_XinitX pm_NoPlan_XinitX cd_NoPlan_XinitX ct_NoPlan_XinitX : Value}
    {f_NoOrder_XinitX : Addr} {od_NoOrder_XinitX an_NoOrder_XinitX : Option Addr} {sl_NoOrder_XinitX : Array (Option Value)} {oc_NoOrder_XinitX kV_NoOrder_XinitX dc_NoOrder_XinitX pm_NoOrder_XinitX cd_NoOrder_XinitX ct_NoOrder_XinitX : Value}
    {f_NoPatch_XinitX : Addr} {od_NoPatch_XinitX an_NoPatch_XinitX : Option Addr} {sl_NoPatch_XinitX : Array (Option Value)} {oc_NoPatch_XinitX kV_NoPatch_XinitX dc_NoPatch_XinitX pm_NoPatch_XinitX cd_NoPatch_XinitX ct_NoPatch_XinitX : Value}
    {f_Clashed_XinitX : Addr} {od_Clashed_XinitX an_Clashed_XinitX : Option Addr} {sl_Clashed_XinitX : Array (Option Value)} {oc_Clashed_XinitX kV_Clashed_XinitX dc_Clashed_XinitX pm_Clashed_XinitX cd_Clashed_XinitX ct_Clashed_XinitX : Value}
    {f_BadChoice_XinitX : Addr} {od_BadChoice_XinitX an_BadChoice_XinitX : Option Addr} {sl_BadChoice_XinitX : Array (Option Value)} {oc_BadChoice_XinitX kV_BadChoice_XinitX dc_BadChoice_XinitX pm_BadChoice_XinitX cd_BadChoice_XinitX ct_BadChoice_XinitX : Value}
    {f_BadJob_XinitX : Addr} {od_BadJob_XinitX an_BadJob_XinitX : Option Addr} {sl_BadJob_XinitX : Array (Option Value)} {oc_BadJob_XinitX kV_BadJob_XinitX dc_BadJob_XinitX pm_BadJob_XinitX cd_BadJob_XinitX ct_BadJob_XinitX : Value}
    {f_BadPlan_XinitX : Addr} {od_BadPlan_XinitX an_BadPlan_XinitX : Option Addr} {sl_BadPlan_XinitX : Array (Option Value)} {oc_BadPlan_XinitX kV_BadPlan_XinitX dc_BadPlan_XinitX pm_BadPlan_XinitX cd_BadPlan_XinitX ct_BadPlan_XinitX : Value}
    {f_NoTurn_XinitX : Addr} {od_NoTurn_XinitX an_NoTurn_XinitX : Option Addr} {sl_NoTurn_XinitX : Array (Option Value)} {oc_NoTurn_XinitX kV_NoTurn_XinitX dc_NoTurn_XinitX pm_NoTurn_XinitX cd_NoTurn_XinitX ct_NoTurn_XinitX : Value}
    {f_NotClosed_XinitX : Addr} {od_NotClosed_XinitX an_NotClosed_XinitX : Option Addr} {sl_NotClosed_XinitX : Array (Option Value)} {oc_NotClosed_XinitX kV_NotClosed_XinitX dc_NotClosed_XinitX pm_NotClosed_XinitX cd_NotClosed_XinitX ct_NotClosed_XinitX : Value}
    {f_BadRelease_XinitX : Addr} {od_BadRelease_XinitX an_BadRelease_XinitX : Option Addr} {sl_BadRelease_XinitX : Array (Option Value)} {oc_BadRelease_XinitX kV_BadRelease_XinitX dc_BadRelease_XinitX pm_BadRelease_XinitX cd_BadRelease_XinitX ct_BadRelease_XinitX : Value}
    {f_NoRelease_XinitX : Addr} {od_NoRelease_XinitX an_NoRelease_XinitX : Option Addr} {sl_NoRelease_XinitX : Array (Option Value)} {oc_NoRelease_XinitX kV_NoRelease_XinitX dc_NoRelease_XinitX pm_NoRelease_XinitX cd_NoRelease_XinitX ct_NoRelease_XinitX : Value}
    {f_NoChoice_XinitX : Addr} {od_NoChoice_XinitX an_NoChoice_XinitX : Option Addr} {sl_NoChoice_XinitX : Array (Option Value)} {oc_NoChoice_XinitX kV_NoChoice_XinitX dc_NoChoice_XinitX pm_NoChoice_XinitX cd_NoChoice_XinitX ct_NoChoice_XinitX : Value}
    {f_BadSystem_XinitX : Addr} {od_BadSystem_XinitX an_BadSystem_XinitX : Option Addr} {sl_BadSystem_XinitX : Array (Option Value)} {oc_BadSystem_XinitX kV_BadSystem_XinitX dc_BadSystem_XinitX pm_BadSystem_XinitX cd_BadSystem_XinitX ct_BadSystem_XinitX : Value}
    {f_Occupied_XinitX : Addr} {od_Occupied_XinitX an_Occupied_XinitX : Option Addr} {sl_Occupied_XinitX : Array (Option Value)} {oc_Occupied_XinitX kV_Occupied_XinitX dc_Occupied_XinitX pm_Occupied_XinitX cd_Occupied_XinitX ct_Occupied_XinitX : Value}
    {f_NotWaiting_XinitX : Addr} {od_NotWaiting_XinitX an_NotWaiting_XinitX : Option Addr} {sl_NotWaiting_XinitX : Array (Option Value)} {oc_NotWaiting_XinitX kV_NotWaiting_XinitX dc_NotWaiting_XinitX pm_NotWaiting_XinitX cd_NotWaiting_XinitX ct_NotWaiting_XinitX : Value}
    {f_BadRecord_XinitX : Addr} {od_BadRecord_XinitX an_BadRecord_XinitX : Option Addr} {sl_BadRecord_XinitX : Array (Option Value)} {oc_BadRecord_XinitX kV_BadRecord_XinitX dc_BadRecord_XinitX pm_BadRecord_XinitX cd_BadRecord_XinitX ct_BadRecord_XinitX : Value}
    {f_Down_XinitX : Addr} {od_Down_XinitX an_Down_XinitX : Option Addr} {sl_Down_XinitX : Array (Option Value)} {oc_Down_XinitX kV_Down_XinitX dc_Down_XinitX pm_Down_XinitX cd_Down_XinitX ct_Down_XinitX : Value}
    {f_Unrecorded_XinitX : Addr} {od_Unrecorded_XinitX an_Unrecorded_XinitX : Option Addr} {sl_Unrecorded_XinitX : Array (Option Value)} {oc_Unrecorded_XinitX kV_Unrecorded_XinitX dc_Unrecorded_XinitX pm_Unrecorded_XinitX cd_Unrecorded_XinitX ct_Unrecorded_XinitX : Value}
    {f_Unchanged_XinitX : Addr} {od_Unchanged_XinitX an_Unchanged_XinitX : Option Addr} {sl_Unchanged_XinitX : Array (Option Value)} {oc_Unchanged_XinitX kV_Unchanged_XinitX dc_Unchanged_XinitX pm_Unchanged_XinitX cd_Unchanged_XinitX ct_Unchanged_XinitX : Value}
    {f_TooFew_XinitX : Addr} {od_TooFew_XinitX an_TooFew_XinitX : Option Addr} {sl_TooFew_XinitX : Array (Option Value)} {oc_TooFew_XinitX kV_TooFew_XinitX dc_TooFew_XinitX pm_TooFew_XinitX cd_TooFew_XinitX ct_TooFew_XinitX : Value}
    {f_UnknownField_XinitX : Addr} {od_UnknownField_XinitX an_UnknownField_XinitX : Option Addr} {sl_UnknownField_XinitX : Array (Option Value)} {oc_UnknownField_XinitX kV_UnknownField_XinitX dc_UnknownField_XinitX pm_UnknownField_XinitX cd_UnknownField_XinitX ct_UnknownField_XinitX : Value}
    {f_law_source : Addr} {od_law_source an_law_source : Option Addr} {sl_law_source : Array (Option Value)} {oc_law_source kV_law_source dc_law_source pm_law_source cd_law_source ct_law_source : Value}
    {f_law_draw : Addr} {od_law_draw an_law_draw : Option Addr} {sl_law_draw : Array (Option Value)} {oc_law_draw kV_law_draw dc_law_draw pm_law_draw cd_law_draw ct_law_draw : Value}
    {f_law_flags : Addr} {od_law_flags an_law_flags : Option Addr} {sl_law_flags : Array (Option Value)} {oc_law_flags kV_law_flags dc_law_flags pm_law_flags cd_law_flags ct_law_flags : Value}
    {f_law_kept : Addr} {od_law_kept an_law_kept : Option Addr} {sl_law_kept : Array (Option Value)} {oc_law_kept kV_law_kept dc_law_kept pm_law_kept cd_law_kept ct_law_kept : Value}
    {f_law_named : Addr} {od_law_named an_law_named : Option Addr} {sl_law_named : Array (Option Value)} {oc_law_named kV_law_named dc_law_named pm_law_named cd_law_named ct_law_named : Value}
    {f_law_later_kept : Addr} {od_law_later_kept an_law_later_kept : Option Addr} {sl_law_later_kept : Array (Option Value)} {oc_law_later_kept kV_law_later_kept dc_law_later_kept pm_law_later_kept cd_law_later_kept ct_law_later_kept : Value}
    {f_law_later_named : Addr} {od_law_later_named an_law_later_named : Option Addr} {sl_law_later_named : Array (Option Value)} {oc_law_later_named kV_law_later_named dc_law_later_named pm_law_later_named cd_law_later_named ct_law_later_named : Value}
    {f_law : Addr} {od_law an_law : Option Addr} {sl_law : Array (Option Value)} {oc_law kV_law dc_law pm_law cd_law ct_law : Value}
    (zValueError : PySem.W.nsIn K mainGlobals "ValueError" = some none)
    (zint : PySem.W.nsIn K mainGlobals "int" = some none)
    (zisinstance : PySem.W.nsIn K mainGlobals "isinstance" = some none)
    (zlen : PySem.W.nsIn K mainGlobals "len" = some none)
    (zmax : PySem.W.nsIn K mainGlobals "max" = some none)
    (zmin : PySem.W.nsIn K mainGlobals "min" = some none)
    (zrange : PySem.W.nsIn K mainGlobals "range" = some none)
    (ztuple : PySem.W.nsIn K mainGlobals "tuple" = some none)
    (hnx : PySem.W.specialIn K (.builtin "object.__class__") "__get__" = some (some (.builtin "getset_descriptor.__get__")))
    (tkx : PySem.W.takesIn K (.builtin "object.__class__") = some true)
    (mgx_SourceError : PySem.W.nsIn K mainGlobals "SourceError" = some (some (.ref c_SourceError)))
    (rd_SourceError : PySem.W.readsIn K c_SourceError (.type "type") = true)
    (rg_SourceError : PySem.W.specialIn K (.ref c_SourceError) "__getattribute__" = some (some (.builtin "type.__getattribute__")))
    (ri_SourceError : PySem.W.findCls K (.ref c_SourceError) (.type "type") "__init__" = some (.val (.builtin "ValueError.__init__")))
    (mgx_BadName : PySem.W.nsIn K mainGlobals "BadName" = some (some (.ref c_BadName)))
    (ox_BadName : OxC K c_BadName)
    (na_BadName_name : PySem.W.findIn K (.ref c_BadName) "name" = some none)
    (mgx_BadPath : PySem.W.nsIn K mainGlobals "BadPath" = some (some (.ref c_BadPath)))
    (ox_BadPath : OxC K c_BadPath)
    (na_BadPath_path : PySem.W.findIn K (.ref c_BadPath) "path" = some none)
    (mgx_NoFile : PySem.W.nsIn K mainGlobals "NoFile" = some (some (.ref c_NoFile)))
    (ox_NoFile : OxC K c_NoFile)
    (na_NoFile_path : PySem.W.findIn K (.ref c_NoFile) "path" = some none)
    (mgx_BadHunk : PySem.W.nsIn K mainGlobals "BadHunk" = some (some (.ref c_BadHunk)))
    (ox_BadHunk : OxC K c_BadHunk)
    (na_BadHunk_index : PySem.W.findIn K (.ref c_BadHunk) "index" = some none)
    (mgx_BadPatch : PySem.W.nsIn K mainGlobals "BadPatch" = some (some (.ref c_BadPatch)))
    (ox_BadPatch : OxC K c_BadPatch)
    (na_BadPatch_path : PySem.W.findIn K (.ref c_BadPatch) "path" = some none)
    (mgx_Refused : PySem.W.nsIn K mainGlobals "Refused" = some (some (.ref c_Refused)))
    (ox_Refused : OxC K c_Refused)
    (na_Refused_path : PySem.W.findIn K (.ref c_Refused) "path" = some none)
    (na_Refused_index : PySem.W.findIn K (.ref c_Refused) "index" = some none)
    (mgx_Entangled : PySem.W.nsIn K mainGlobals "Entangled" = some (some (.ref c_Entangled)))
    (ox_Entangled : OxC K c_Entangled)
    (na_Entangled_path : PySem.W.findIn K (.ref c_Entangled) "path" = some none)
    (mgx_BadSeries : PySem.W.nsIn K mainGlobals "BadSeries" = some (some (.ref c_BadSeries)))
    (ox_BadSeries : OxC K c_BadSeries)
    (na_BadSeries_index : PySem.W.findIn K (.ref c_BadSeries) "index" = some none)
    (mgx_Stopped : PySem.W.nsIn K mainGlobals "Stopped" = some (some (.ref c_Stopped)))
    (ox_Stopped : OxC K c_Stopped)
    (na_Stopped_index : PySem.W.findIn K (.ref c_Stopped) "index" = some none)
    (mgx_BadRecipe : PySem.W.nsIn K mainGlobals "BadRecipe" = some (some (.ref c_BadRecipe)))
    (ox_BadRecipe : OxC K c_BadRecipe)
    (na_BadRecipe_index : PySem.W.findIn K (.ref c_BadRecipe) "index" = some none)
    (mgx_Outside : PySem.W.nsIn K mainGlobals "Outside" = some (some (.ref c_Outside)))
    (ox_Outside : OxC K c_Outside)
    (na_Outside_output : PySem.W.findIn K (.ref c_Outside) "output" = some none)
    (na_Outside_read : PySem.W.findIn K (.ref c_Outside) "read" = some none)
    (mgx_Absent : PySem.W.nsIn K mainGlobals "Absent" = some (some (.ref c_Absent)))
    (ox_Absent : OxC K c_Absent)
    (na_Absent_output : PySem.W.findIn K (.ref c_Absent) "output" = some none)
    (na_Absent_read : PySem.W.findIn K (.ref c_Absent) "read" = some none)
    (mgx_BadArchive : PySem.W.nsIn K mainGlobals "BadArchive" = some (some (.ref c_BadArchive)))
    (ox_BadArchive : OxC K c_BadArchive)
    (na_BadArchive_name : PySem.W.findIn K (.ref c_BadArchive) "name" = some none)
    (mgx_NoPlan : PySem.W.nsIn K mainGlobals "NoPlan" = some (some (.ref c_NoPlan)))
    (ox_NoPlan : OxC K c_NoPlan)
    (na_NoPlan_ring : PySem.W.findIn K (.ref c_NoPlan) "ring" = some none)
    (mgx_NoOrder : PySem.W.nsIn K mainGlobals "NoOrder" = some (some (.ref c_NoOrder)))
    (ox_NoOrder : OxC K c_NoOrder)
    (mgx_NoPatch : PySem.W.nsIn K mainGlobals "NoPatch" = some (some (.ref c_NoPatch)))
    (ox_NoPatch : OxC K c_NoPatch)
    (na_NoPatch_name : PySem.W.findIn K (.ref c_NoPatch) "name" = some none)
    (mgx_Clashed : PySem.W.nsIn K mainGlobals "Clashed" = some (some (.ref c_Clashed)))
    (ox_Clashed : OxC K c_Clashed)
    (na_Clashed_ours : PySem.W.findIn K (.ref c_Clashed) "ours" = some none)
    (na_Clashed_theirs : PySem.W.findIn K (.ref c_Clashed) "theirs" = some none)
    (mgx_BadChoice : PySem.W.nsIn K mainGlobals "BadChoice" = some (some (.ref c_BadChoice)))
    (ox_BadChoice : OxC K c_BadChoice)
    (na_BadChoice_name : PySem.W.findIn K (.ref c_BadChoice) "name" = some none)
    (mgx_BadJob : PySem.W.nsIn K mainGlobals "BadJob" = some (some (.ref c_BadJob)))
    (ox_BadJob : OxC K c_BadJob)
    (na_BadJob_index : PySem.W.findIn K (.ref c_BadJob) "index" = some none)
    (mgx_BadPlan : PySem.W.nsIn K mainGlobals "BadPlan" = some (some (.ref c_BadPlan)))
    (ox_BadPlan : OxC K c_BadPlan)
    (mgx_NoTurn : PySem.W.nsIn K mainGlobals "NoTurn" = some (some (.ref c_NoTurn)))
    (ox_NoTurn : OxC K c_NoTurn)
    (na_NoTurn_count : PySem.W.findIn K (.ref c_NoTurn) "count" = some none)
    (mgx_NotClosed : PySem.W.nsIn K mainGlobals "NotClosed" = some (some (.ref c_NotClosed)))
    (ox_NotClosed : OxC K c_NotClosed)
    (na_NotClosed_index : PySem.W.findIn K (.ref c_NotClosed) "index" = some none)
    (mgx_BadRelease : PySem.W.nsIn K mainGlobals "BadRelease" = some (some (.ref c_BadRelease)))
    (ox_BadRelease : OxC K c_BadRelease)
    (na_BadRelease_name : PySem.W.findIn K (.ref c_BadRelease) "name" = some none)
    (na_BadRelease_number : PySem.W.findIn K (.ref c_BadRelease) "number" = some none)
    (mgx_NoRelease : PySem.W.nsIn K mainGlobals "NoRelease" = some (some (.ref c_NoRelease)))
    (ox_NoRelease : OxC K c_NoRelease)
    (na_NoRelease_name : PySem.W.findIn K (.ref c_NoRelease) "name" = some none)
    (na_NoRelease_number : PySem.W.findIn K (.ref c_NoRelease) "number" = some none)
    (mgx_NoChoice : PySem.W.nsIn K mainGlobals "NoChoice" = some (some (.ref c_NoChoice)))
    (ox_NoChoice : OxC K c_NoChoice)
    (mgx_BadSystem : PySem.W.nsIn K mainGlobals "BadSystem" = some (some (.ref c_BadSystem)))
    (ox_BadSystem : OxC K c_BadSystem)
    (na_BadSystem_name : PySem.W.findIn K (.ref c_BadSystem) "name" = some none)
    (mgx_Occupied : PySem.W.nsIn K mainGlobals "Occupied" = some (some (.ref c_Occupied)))
    (ox_Occupied : OxC K c_Occupied)
    (na_Occupied_path : PySem.W.findIn K (.ref c_Occupied) "path" = some none)
    (mgx_NotWaiting : PySem.W.nsIn K mainGlobals "NotWaiting" = some (some (.ref c_NotWaiting)))
    (ox_NotWaiting : OxC K c_NotWaiting)
    (na_NotWaiting_path : PySem.W.findIn K (.ref c_NotWaiting) "path" = some none)
    (mgx_BadRecord : PySem.W.nsIn K mainGlobals "BadRecord" = some (some (.ref c_BadRecord)))
    (ox_BadRecord : OxC K c_BadRecord)
    (na_BadRecord_name : PySem.W.findIn K (.ref c_BadRecord) "name" = some none)
    (mgx_Down : PySem.W.nsIn K mainGlobals "Down" = some (some (.ref c_Down)))
    (ox_Down : OxC K c_Down)
    (mgx_Unrecorded : PySem.W.nsIn K mainGlobals "Unrecorded" = some (some (.ref c_Unrecorded)))
    (ox_Unrecorded : OxC K c_Unrecorded)
    (mgx_Unchanged : PySem.W.nsIn K mainGlobals "Unchanged" = some (some (.ref c_Unchanged)))
    (ox_Unchanged : OxC K c_Unchanged)
    (mgx_TooFew : PySem.W.nsIn K mainGlobals "TooFew" = some (some (.ref c_TooFew)))
    (ox_TooFew : OxC K c_TooFew)
    (na_TooFew_count : PySem.W.findIn K (.ref c_TooFew) "count" = some none)
    (mgx_UnknownField : PySem.W.nsIn K mainGlobals "UnknownField" = some (some (.ref c_UnknownField)))
    (ox_UnknownField : OxC K c_UnknownField)
    (na_UnknownField_name : PySem.W.findIn K (.ref c_UnknownField) "name" = some none)
    (a_BadName_XinitX : PySem.W.findIn K (.ref c_BadName) "__init__" = some (some (.ref f_BadName_XinitX)))
    (l_BadName_XinitX : K.lookup f_BadName_XinitX = some ⟨oc_BadName_XinitX, od_BadName_XinitX, .func (PySem.W.fnOf "__init__" "BadName.__init__" (defArgs s_BadName_XinitX) (defBody s_BadName_XinitX) (defScope s_BadName_XinitX) .none kV_BadName_XinitX dc_BadName_XinitX pm_BadName_XinitX an_BadName_XinitX cd_BadName_XinitX ct_BadName_XinitX), sl_BadName_XinitX⟩)
    (c_BadName_XinitX : PySem.W.codeIn K cd_BadName_XinitX "BadName.__init__" = true)
    (k_BadName_XinitX : PySem.W.keepIn K (.ref f_BadName_XinitX) = true)
    (fn_BadName_XinitX : PySem.W.isFn K (.ref f_BadName_XinitX) = true)
    (fi_BadName_XinitX : PySem.W.fnIn K f_BadName_XinitX = true)
    (a_BadPath_XinitX : PySem.W.findIn K (.ref c_BadPath) "__init__" = some (some (.ref f_BadPath_XinitX)))
    (l_BadPath_XinitX : K.lookup f_BadPath_XinitX = some ⟨oc_BadPath_XinitX, od_BadPath_XinitX, .func (PySem.W.fnOf "__init__" "BadPath.__init__" (defArgs s_BadPath_XinitX) (defBody s_BadPath_XinitX) (defScope s_BadPath_XinitX) .none kV_BadPath_XinitX dc_BadPath_XinitX pm_BadPath_XinitX an_BadPath_XinitX cd_BadPath_XinitX ct_BadPath_XinitX), sl_BadPath_XinitX⟩)
    (c_BadPath_XinitX : PySem.W.codeIn K cd_BadPath_XinitX "BadPath.__init__" = true)
    (k_BadPath_XinitX : PySem.W.keepIn K (.ref f_BadPath_XinitX) = true)
    (fn_BadPath_XinitX : PySem.W.isFn K (.ref f_BadPath_XinitX) = true)
    (fi_BadPath_XinitX : PySem.W.fnIn K f_BadPath_XinitX = true)
    (a_NoFile_XinitX : PySem.W.findIn K (.ref c_NoFile) "__init__" = some (some (.ref f_NoFile_XinitX)))
    (l_NoFile_XinitX : K.lookup f_NoFile_XinitX = some ⟨oc_NoFile_XinitX, od_NoFile_XinitX, .func (PySem.W.fnOf "__init__" "NoFile.__init__" (defArgs s_NoFile_XinitX) (defBody s_NoFile_XinitX) (defScope s_NoFile_XinitX) .none kV_NoFile_XinitX dc_NoFile_XinitX pm_NoFile_XinitX an_NoFile_XinitX cd_NoFile_XinitX ct_NoFile_XinitX), sl_NoFile_XinitX⟩)
    (c_NoFile_XinitX : PySem.W.codeIn K cd_NoFile_XinitX "NoFile.__init__" = true)
    (k_NoFile_XinitX : PySem.W.keepIn K (.ref f_NoFile_XinitX) = true)
    (fn_NoFile_XinitX : PySem.W.isFn K (.ref f_NoFile_XinitX) = true)
    (fi_NoFile_XinitX : PySem.W.fnIn K f_NoFile_XinitX = true)
    (a_BadHunk_XinitX : PySem.W.findIn K (.ref c_BadHunk) "__init__" = some (some (.ref f_BadHunk_XinitX)))
    (l_BadHunk_XinitX : K.lookup f_BadHunk_XinitX = some ⟨oc_BadHunk_XinitX, od_BadHunk_XinitX, .func (PySem.W.fnOf "__init__" "BadHunk.__init__" (defArgs s_BadHunk_XinitX) (defBody s_BadHunk_XinitX) (defScope s_BadHunk_XinitX) .none kV_BadHunk_XinitX dc_BadHunk_XinitX pm_BadHunk_XinitX an_BadHunk_XinitX cd_BadHunk_XinitX ct_BadHunk_XinitX), sl_BadHunk_XinitX⟩)
    (c_BadHunk_XinitX : PySem.W.codeIn K cd_BadHunk_XinitX "BadHunk.__init__" = true)
    (k_BadHunk_XinitX : PySem.W.keepIn K (.ref f_BadHunk_XinitX) = true)
    (fn_BadHunk_XinitX : PySem.W.isFn K (.ref f_BadHunk_XinitX) = true)
    (fi_BadHunk_XinitX : PySem.W.fnIn K f_BadHunk_XinitX = true)
    (a_BadPatch_XinitX : PySem.W.findIn K (.ref c_BadPatch) "__init__" = some (some (.ref f_BadPatch_XinitX)))
    (l_BadPatch_XinitX : K.lookup f_BadPatch_XinitX = some ⟨oc_BadPatch_XinitX, od_BadPatch_XinitX, .func (PySem.W.fnOf "__init__" "BadPatch.__init__" (defArgs s_BadPatch_XinitX) (defBody s_BadPatch_XinitX) (defScope s_BadPatch_XinitX) .none kV_BadPatch_XinitX dc_BadPatch_XinitX pm_BadPatch_XinitX an_BadPatch_XinitX cd_BadPatch_XinitX ct_BadPatch_XinitX), sl_BadPatch_XinitX⟩)
    (c_BadPatch_XinitX : PySem.W.codeIn K cd_BadPatch_XinitX "BadPatch.__init__" = true)
    (k_BadPatch_XinitX : PySem.W.keepIn K (.ref f_BadPatch_XinitX) = true)
    (fn_BadPatch_XinitX : PySem.W.isFn K (.ref f_BadPatch_XinitX) = true)
    (fi_BadPatch_XinitX : PySem.W.fnIn K f_BadPatch_XinitX = true)
    (a_Refused_XinitX : PySem.W.findIn K (.ref c_Refused) "__init__" = some (some (.ref f_Refused_XinitX)))
    (l_Refused_XinitX : K.lookup f_Refused_XinitX = some ⟨oc_Refused_XinitX, od_Refused_XinitX, .func (PySem.W.fnOf "__init__" "Refused.__init__" (defArgs s_Refused_XinitX) (defBody s_Refused_XinitX) (defScope s_Refused_XinitX) .none kV_Refused_XinitX dc_Refused_XinitX pm_Refused_XinitX an_Refused_XinitX cd_Refused_XinitX ct_Refused_XinitX), sl_Refused_XinitX⟩)
    (c_Refused_XinitX : PySem.W.codeIn K cd_Refused_XinitX "Refused.__init__" = true)
    (k_Refused_XinitX : PySem.W.keepIn K (.ref f_Refused_XinitX) = true)
    (fn_Refused_XinitX : PySem.W.isFn K (.ref f_Refused_XinitX) = true)
    (fi_Refused_XinitX : PySem.W.fnIn K f_Refused_XinitX = true)
    (a_Entangled_XinitX : PySem.W.findIn K (.ref c_Entangled) "__init__" = some (some (.ref f_Entangled_XinitX)))
    (l_Entangled_XinitX : K.lookup f_Entangled_XinitX = some ⟨oc_Entangled_XinitX, od_Entangled_XinitX, .func (PySem.W.fnOf "__init__" "Entangled.__init__" (defArgs s_Entangled_XinitX) (defBody s_Entangled_XinitX) (defScope s_Entangled_XinitX) .none kV_Entangled_XinitX dc_Entangled_XinitX pm_Entangled_XinitX an_Entangled_XinitX cd_Entangled_XinitX ct_Entangled_XinitX), sl_Entangled_XinitX⟩)
    (c_Entangled_XinitX : PySem.W.codeIn K cd_Entangled_XinitX "Entangled.__init__" = true)
    (k_Entangled_XinitX : PySem.W.keepIn K (.ref f_Entangled_XinitX) = true)
    (fn_Entangled_XinitX : PySem.W.isFn K (.ref f_Entangled_XinitX) = true)
    (fi_Entangled_XinitX : PySem.W.fnIn K f_Entangled_XinitX = true)
    (a_BadSeries_XinitX : PySem.W.findIn K (.ref c_BadSeries) "__init__" = some (some (.ref f_BadSeries_XinitX)))
    (l_BadSeries_XinitX : K.lookup f_BadSeries_XinitX = some ⟨oc_BadSeries_XinitX, od_BadSeries_XinitX, .func (PySem.W.fnOf "__init__" "BadSeries.__init__" (defArgs s_BadSeries_XinitX) (defBody s_BadSeries_XinitX) (defScope s_BadSeries_XinitX) .none kV_BadSeries_XinitX dc_BadSeries_XinitX pm_BadSeries_XinitX an_BadSeries_XinitX cd_BadSeries_XinitX ct_BadSeries_XinitX), sl_BadSeries_XinitX⟩)
    (c_BadSeries_XinitX : PySem.W.codeIn K cd_BadSeries_XinitX "BadSeries.__init__" = true)
    (k_BadSeries_XinitX : PySem.W.keepIn K (.ref f_BadSeries_XinitX) = true)
    (fn_BadSeries_XinitX : PySem.W.isFn K (.ref f_BadSeries_XinitX) = true)
    (fi_BadSeries_XinitX : PySem.W.fnIn K f_BadSeries_XinitX = true)
    (a_Stopped_XinitX : PySem.W.findIn K (.ref c_Stopped) "__init__" = some (some (.ref f_Stopped_XinitX)))
    (l_Stopped_XinitX : K.lookup f_Stopped_XinitX = some ⟨oc_Stopped_XinitX, od_Stopped_XinitX, .func (PySem.W.fnOf "__init__" "Stopped.__init__" (defArgs s_Stopped_XinitX) (defBody s_Stopped_XinitX) (defScope s_Stopped_XinitX) .none kV_Stopped_XinitX dc_Stopped_XinitX pm_Stopped_XinitX an_Stopped_XinitX cd_Stopped_XinitX ct_Stopped_XinitX), sl_Stopped_XinitX⟩)
    (c_Stopped_XinitX : PySem.W.codeIn K cd_Stopped_XinitX "Stopped.__init__" = true)
    (k_Stopped_XinitX : PySem.W.keepIn K (.ref f_Stopped_XinitX) = true)
    (fn_Stopped_XinitX : PySem.W.isFn K (.ref f_Stopped_XinitX) = true)
    (fi_Stopped_XinitX : PySem.W.fnIn K f_Stopped_XinitX = true)
    (a_BadRecipe_XinitX : PySem.W.findIn K (.ref c_BadRecipe) "__init__" = some (some (.ref f_BadRecipe_XinitX)))
    (l_BadRecipe_XinitX : K.lookup f_BadRecipe_XinitX = some ⟨oc_BadRecipe_XinitX, od_BadRecipe_XinitX, .func (PySem.W.fnOf "__init__" "BadRecipe.__init__" (defArgs s_BadRecipe_XinitX) (defBody s_BadRecipe_XinitX) (defScope s_BadRecipe_XinitX) .none kV_BadRecipe_XinitX dc_BadRecipe_XinitX pm_BadRecipe_XinitX an_BadRecipe_XinitX cd_BadRecipe_XinitX ct_BadRecipe_XinitX), sl_BadRecipe_XinitX⟩)
    (c_BadRecipe_XinitX : PySem.W.codeIn K cd_BadRecipe_XinitX "BadRecipe.__init__" = true)
    (k_BadRecipe_XinitX : PySem.W.keepIn K (.ref f_BadRecipe_XinitX) = true)
    (fn_BadRecipe_XinitX : PySem.W.isFn K (.ref f_BadRecipe_XinitX) = true)
    (fi_BadRecipe_XinitX : PySem.W.fnIn K f_BadRecipe_XinitX = true)
    (a_Outside_XinitX : PySem.W.findIn K (.ref c_Outside) "__init__" = some (some (.ref f_Outside_XinitX)))
    (l_Outside_XinitX : K.lookup f_Outside_XinitX = some ⟨oc_Outside_XinitX, od_Outside_XinitX, .func (PySem.W.fnOf "__init__" "Outside.__init__" (defArgs s_Outside_XinitX) (defBody s_Outside_XinitX) (defScope s_Outside_XinitX) .none kV_Outside_XinitX dc_Outside_XinitX pm_Outside_XinitX an_Outside_XinitX cd_Outside_XinitX ct_Outside_XinitX), sl_Outside_XinitX⟩)
    (c_Outside_XinitX : PySem.W.codeIn K cd_Outside_XinitX "Outside.__init__" = true)
    (k_Outside_XinitX : PySem.W.keepIn K (.ref f_Outside_XinitX) = true)
    (fn_Outside_XinitX : PySem.W.isFn K (.ref f_Outside_XinitX) = true)
    (fi_Outside_XinitX : PySem.W.fnIn K f_Outside_XinitX = true)
    (a_Absent_XinitX : PySem.W.findIn K (.ref c_Absent) "__init__" = some (some (.ref f_Absent_XinitX)))
    (l_Absent_XinitX : K.lookup f_Absent_XinitX = some ⟨oc_Absent_XinitX, od_Absent_XinitX, .func (PySem.W.fnOf "__init__" "Absent.__init__" (defArgs s_Absent_XinitX) (defBody s_Absent_XinitX) (defScope s_Absent_XinitX) .none kV_Absent_XinitX dc_Absent_XinitX pm_Absent_XinitX an_Absent_XinitX cd_Absent_XinitX ct_Absent_XinitX), sl_Absent_XinitX⟩)
    (c_Absent_XinitX : PySem.W.codeIn K cd_Absent_XinitX "Absent.__init__" = true)
    (k_Absent_XinitX : PySem.W.keepIn K (.ref f_Absent_XinitX) = true)
    (fn_Absent_XinitX : PySem.W.isFn K (.ref f_Absent_XinitX) = true)
    (fi_Absent_XinitX : PySem.W.fnIn K f_Absent_XinitX = true)
    (a_BadArchive_XinitX : PySem.W.findIn K (.ref c_BadArchive) "__init__" = some (some (.ref f_BadArchive_XinitX)))
    (l_BadArchive_XinitX : K.lookup f_BadArchive_XinitX = some ⟨oc_BadArchive_XinitX, od_BadArchive_XinitX, .func (PySem.W.fnOf "__init__" "BadArchive.__init__" (defArgs s_BadArchive_XinitX) (defBody s_BadArchive_XinitX) (defScope s_BadArchive_XinitX) .none kV_BadArchive_XinitX dc_BadArchive_XinitX pm_BadArchive_XinitX an_BadArchive_XinitX cd_BadArchive_XinitX ct_BadArchive_XinitX), sl_BadArchive_XinitX⟩)
    (c_BadArchive_XinitX : PySem.W.codeIn K cd_BadArchive_XinitX "BadArchive.__init__" = true)
    (k_BadArchive_XinitX : PySem.W.keepIn K (.ref f_BadArchive_XinitX) = true)
    (fn_BadArchive_XinitX : PySem.W.isFn K (.ref f_BadArchive_XinitX) = true)
    (fi_BadArchive_XinitX : PySem.W.fnIn K f_BadArchive_XinitX = true)
    (a_NoPlan_XinitX : PySem.W.findIn K (.ref c_NoPlan) "__init__" = some (some (.ref f_NoPlan_XinitX)))
    (l_NoPlan_XinitX : K.lookup f_NoPlan_XinitX = some ⟨oc_NoPlan_XinitX, od_NoPlan_XinitX, .func (PySem.W.fnOf "__init__" "NoPlan.__init__" (defArgs s_NoPlan_XinitX) (defBody s_NoPlan_XinitX) (defScope s_NoPlan_XinitX) .none kV_NoPlan_XinitX dc_NoPlan_XinitX pm_NoPlan_XinitX an_NoPlan_XinitX cd_NoPlan_XinitX ct_NoPlan_XinitX), sl_NoPlan_XinitX⟩)
    (c_NoPlan_XinitX : PySem.W.codeIn K cd_NoPlan_XinitX "NoPlan.__init__" = true)
    (k_NoPlan_XinitX : PySem.W.keepIn K (.ref f_NoPlan_XinitX) = true)
    (fn_NoPlan_XinitX : PySem.W.isFn K (.ref f_NoPlan_XinitX) = true)
    (fi_NoPlan_XinitX : PySem.W.fnIn K f_NoPlan_XinitX = true)
    (a_NoOrder_XinitX : PySem.W.findIn K (.ref c_NoOrder) "__init__" = some (some (.ref f_NoOrder_XinitX)))
    (l_NoOrder_XinitX : K.lookup f_NoOrder_XinitX = some ⟨oc_NoOrder_XinitX, od_NoOrder_XinitX, .func (PySem.W.fnOf "__init__" "NoOrder.__init__" (defArgs s_NoOrder_XinitX) (defBody s_NoOrder_XinitX) (defScope s_NoOrder_XinitX) .none kV_NoOrder_XinitX dc_NoOrder_XinitX pm_NoOrder_XinitX an_NoOrder_XinitX cd_NoOrder_XinitX ct_NoOrder_XinitX), sl_NoOrder_XinitX⟩)
    (c_NoOrder_XinitX : PySem.W.codeIn K cd_NoOrder_XinitX "NoOrder.__init__" = true)
    (k_NoOrder_XinitX : PySem.W.keepIn K (.ref f_NoOrder_XinitX) = true)
    (fn_NoOrder_XinitX : PySem.W.isFn K (.ref f_NoOrder_XinitX) = true)
    (fi_NoOrder_XinitX : PySem.W.fnIn K f_NoOrder_XinitX = true)
    (a_NoPatch_XinitX : PySem.W.findIn K (.ref c_NoPatch) "__init__" = some (some (.ref f_NoPatch_XinitX)))
    (l_NoPatch_XinitX : K.lookup f_NoPatch_XinitX = some ⟨oc_NoPatch_XinitX, od_NoPatch_XinitX, .func (PySem.W.fnOf "__init__" "NoPatch.__init__" (defArgs s_NoPatch_XinitX) (defBody s_NoPatch_XinitX) (defScope s_NoPatch_XinitX) .none kV_NoPatch_XinitX dc_NoPatch_XinitX pm_NoPatch_XinitX an_NoPatch_XinitX cd_NoPatch_XinitX ct_NoPatch_XinitX), sl_NoPatch_XinitX⟩)
    (c_NoPatch_XinitX : PySem.W.codeIn K cd_NoPatch_XinitX "NoPatch.__init__" = true)
    (k_NoPatch_XinitX : PySem.W.keepIn K (.ref f_NoPatch_XinitX) = true)
    (fn_NoPatch_XinitX : PySem.W.isFn K (.ref f_NoPatch_XinitX) = true)
    (fi_NoPatch_XinitX : PySem.W.fnIn K f_NoPatch_XinitX = true)
    (a_Clashed_XinitX : PySem.W.findIn K (.ref c_Clashed) "__init__" = some (some (.ref f_Clashed_XinitX)))
    (l_Clashed_XinitX : K.lookup f_Clashed_XinitX = some ⟨oc_Clashed_XinitX, od_Clashed_XinitX, .func (PySem.W.fnOf "__init__" "Clashed.__init__" (defArgs s_Clashed_XinitX) (defBody s_Clashed_XinitX) (defScope s_Clashed_XinitX) .none kV_Clashed_XinitX dc_Clashed_XinitX pm_Clashed_XinitX an_Clashed_XinitX cd_Clashed_XinitX ct_Clashed_XinitX), sl_Clashed_XinitX⟩)
    (c_Clashed_XinitX : PySem.W.codeIn K cd_Clashed_XinitX "Clashed.__init__" = true)
    (k_Clashed_XinitX : PySem.W.keepIn K (.ref f_Clashed_XinitX) = true)
    (fn_Clashed_XinitX : PySem.W.isFn K (.ref f_Clashed_XinitX) = true)
    (fi_Clashed_XinitX : PySem.W.fnIn K f_Clashed_XinitX = true)
    (a_BadChoice_XinitX : PySem.W.findIn K (.ref c_BadChoice) "__init__" = some (some (.ref f_BadChoice_XinitX)))
    (l_BadChoice_XinitX : K.lookup f_BadChoice_XinitX = some ⟨oc_BadChoice_XinitX, od_BadChoice_XinitX, .func (PySem.W.fnOf "__init__" "BadChoice.__init__" (defArgs s_BadChoice_XinitX) (defBody s_BadChoice_XinitX) (defScope s_BadChoice_XinitX) .none kV_BadChoice_XinitX dc_BadChoice_XinitX pm_BadChoice_XinitX an_BadChoice_XinitX cd_BadChoice_XinitX ct_BadChoice_XinitX), sl_BadChoice_XinitX⟩)
    (c_BadChoice_XinitX : PySem.W.codeIn K cd_BadChoice_XinitX "BadChoice.__init__" = true)
    (k_BadChoice_XinitX : PySem.W.keepIn K (.ref f_BadChoice_XinitX) = true)
    (fn_BadChoice_XinitX : PySem.W.isFn K (.ref f_BadChoice_XinitX) = true)
    (fi_BadChoice_XinitX : PySem.W.fnIn K f_BadChoice_XinitX = true)
    (a_BadJob_XinitX : PySem.W.findIn K (.ref c_BadJob) "__init__" = some (some (.ref f_BadJob_XinitX)))
    (l_BadJob_XinitX : K.lookup f_BadJob_XinitX = some ⟨oc_BadJob_XinitX, od_BadJob_XinitX, .func (PySem.W.fnOf "__init__" "BadJob.__init__" (defArgs s_BadJob_XinitX) (defBody s_BadJob_XinitX) (defScope s_BadJob_XinitX) .none kV_BadJob_XinitX dc_BadJob_XinitX pm_BadJob_XinitX an_BadJob_XinitX cd_BadJob_XinitX ct_BadJob_XinitX), sl_BadJob_XinitX⟩)
    (c_BadJob_XinitX : PySem.W.codeIn K cd_BadJob_XinitX "BadJob.__init__" = true)
    (k_BadJob_XinitX : PySem.W.keepIn K (.ref f_BadJob_XinitX) = true)
    (fn_BadJob_XinitX : PySem.W.isFn K (.ref f_BadJob_XinitX) = true)
    (fi_BadJob_XinitX : PySem.W.fnIn K f_BadJob_XinitX = true)
    (a_BadPlan_XinitX : PySem.W.findIn K (.ref c_BadPlan) "__init__" = some (some (.ref f_BadPlan_XinitX)))
    (l_BadPlan_XinitX : K.lookup f_BadPlan_XinitX = some ⟨oc_BadPlan_XinitX, od_BadPlan_XinitX, .func (PySem.W.fnOf "__init__" "BadPlan.__init__" (defArgs s_BadPlan_XinitX) (defBody s_BadPlan_XinitX) (defScope s_BadPlan_XinitX) .none kV_BadPlan_XinitX dc_BadPlan_XinitX pm_BadPlan_XinitX an_BadPlan_XinitX cd_BadPlan_XinitX ct_BadPlan_XinitX), sl_BadPlan_XinitX⟩)
    (c_BadPlan_XinitX : PySem.W.codeIn K cd_BadPlan_XinitX "BadPlan.__init__" = true)
    (k_BadPlan_XinitX : PySem.W.keepIn K (.ref f_BadPlan_XinitX) = true)
    (fn_BadPlan_XinitX : PySem.W.isFn K (.ref f_BadPlan_XinitX) = true)
    (fi_BadPlan_XinitX : PySem.W.fnIn K f_BadPlan_XinitX = true)
    (a_NoTurn_XinitX : PySem.W.findIn K (.ref c_NoTurn) "__init__" = some (some (.ref f_NoTurn_XinitX)))
    (l_NoTurn_XinitX : K.lookup f_NoTurn_XinitX = some ⟨oc_NoTurn_XinitX, od_NoTurn_XinitX, .func (PySem.W.fnOf "__init__" "NoTurn.__init__" (defArgs s_NoTurn_XinitX) (defBody s_NoTurn_XinitX) (defScope s_NoTurn_XinitX) .none kV_NoTurn_XinitX dc_NoTurn_XinitX pm_NoTurn_XinitX an_NoTurn_XinitX cd_NoTurn_XinitX ct_NoTurn_XinitX), sl_NoTurn_XinitX⟩)
    (c_NoTurn_XinitX : PySem.W.codeIn K cd_NoTurn_XinitX "NoTurn.__init__" = true)
    (k_NoTurn_XinitX : PySem.W.keepIn K (.ref f_NoTurn_XinitX) = true)
    (fn_NoTurn_XinitX : PySem.W.isFn K (.ref f_NoTurn_XinitX) = true)
    (fi_NoTurn_XinitX : PySem.W.fnIn K f_NoTurn_XinitX = true)
    (a_NotClosed_XinitX : PySem.W.findIn K (.ref c_NotClosed) "__init__" = some (some (.ref f_NotClosed_XinitX)))
    (l_NotClosed_XinitX : K.lookup f_NotClosed_XinitX = some ⟨oc_NotClosed_XinitX, od_NotClosed_XinitX, .func (PySem.W.fnOf "__init__" "NotClosed.__init__" (defArgs s_NotClosed_XinitX) (defBody s_NotClosed_XinitX) (defScope s_NotClosed_XinitX) .none kV_NotClosed_XinitX dc_NotClosed_XinitX pm_NotClosed_XinitX an_NotClosed_XinitX cd_NotClosed_XinitX ct_NotClosed_XinitX), sl_NotClosed_XinitX⟩)
    (c_NotClosed_XinitX : PySem.W.codeIn K cd_NotClosed_XinitX "NotClosed.__init__" = true)
    (k_NotClosed_XinitX : PySem.W.keepIn K (.ref f_NotClosed_XinitX) = true)
    (fn_NotClosed_XinitX : PySem.W.isFn K (.ref f_NotClosed_XinitX) = true)
    (fi_NotClosed_XinitX : PySem.W.fnIn K f_NotClosed_XinitX = true)
    (a_BadRelease_XinitX : PySem.W.findIn K (.ref c_BadRelease) "__init__" = some (some (.ref f_BadRelease_XinitX)))
    (l_BadRelease_XinitX : K.lookup f_BadRelease_XinitX = some ⟨oc_BadRelease_XinitX, od_BadRelease_XinitX, .func (PySem.W.fnOf "__init__" "BadRelease.__init__" (defArgs s_BadRelease_XinitX) (defBody s_BadRelease_XinitX) (defScope s_BadRelease_XinitX) .none kV_BadRelease_XinitX dc_BadRelease_XinitX pm_BadRelease_XinitX an_BadRelease_XinitX cd_BadRelease_XinitX ct_BadRelease_XinitX), sl_BadRelease_XinitX⟩)
    (c_BadRelease_XinitX : PySem.W.codeIn K cd_BadRelease_XinitX "BadRelease.__init__" = true)
    (k_BadRelease_XinitX : PySem.W.keepIn K (.ref f_BadRelease_XinitX) = true)
    (fn_BadRelease_XinitX : PySem.W.isFn K (.ref f_BadRelease_XinitX) = true)
    (fi_BadRelease_XinitX : PySem.W.fnIn K f_BadRelease_XinitX = true)
    (a_NoRelease_XinitX : PySem.W.findIn K (.ref c_NoRelease) "__init__" = some (some (.ref f_NoRelease_XinitX)))
    (l_NoRelease_XinitX : K.lookup f_NoRelease_XinitX = some ⟨oc_NoRelease_XinitX, od_NoRelease_XinitX, .func (PySem.W.fnOf "__init__" "NoRelease.__init__" (defArgs s_NoRelease_XinitX) (defBody s_NoRelease_XinitX) (defScope s_NoRelease_XinitX) .none kV_NoRelease_XinitX dc_NoRelease_XinitX pm_NoRelease_XinitX an_NoRelease_XinitX cd_NoRelease_XinitX ct_NoRelease_XinitX), sl_NoRelease_XinitX⟩)
    (c_NoRelease_XinitX : PySem.W.codeIn K cd_NoRelease_XinitX "NoRelease.__init__" = true)
    (k_NoRelease_XinitX : PySem.W.keepIn K (.ref f_NoRelease_XinitX) = true)
    (fn_NoRelease_XinitX : PySem.W.isFn K (.ref f_NoRelease_XinitX) = true)
    (fi_NoRelease_XinitX : PySem.W.fnIn K f_NoRelease_XinitX = true)
    (a_NoChoice_XinitX : PySem.W.findIn K (.ref c_NoChoice) "__init__" = some (some (.ref f_NoChoice_XinitX)))
    (l_NoChoice_XinitX : K.lookup f_NoChoice_XinitX = some ⟨oc_NoChoice_XinitX, od_NoChoice_XinitX, .func (PySem.W.fnOf "__init__" "NoChoice.__init__" (defArgs s_NoChoice_XinitX) (defBody s_NoChoice_XinitX) (defScope s_NoChoice_XinitX) .none kV_NoChoice_XinitX dc_NoChoice_XinitX pm_NoChoice_XinitX an_NoChoice_XinitX cd_NoChoice_XinitX ct_NoChoice_XinitX), sl_NoChoice_XinitX⟩)
    (c_NoChoice_XinitX : PySem.W.codeIn K cd_NoChoice_XinitX "NoChoice.__init__" = true)
    (k_NoChoice_XinitX : PySem.W.keepIn K (.ref f_NoChoice_XinitX) = true)
    (fn_NoChoice_XinitX : PySem.W.isFn K (.ref f_NoChoice_XinitX) = true)
    (fi_NoChoice_XinitX : PySem.W.fnIn K f_NoChoice_XinitX = true)
    (a_BadSystem_XinitX : PySem.W.findIn K (.ref c_BadSystem) "__init__" = some (some (.ref f_BadSystem_XinitX)))
    (l_BadSystem_XinitX : K.lookup f_BadSystem_XinitX = some ⟨oc_BadSystem_XinitX, od_BadSystem_XinitX, .func (PySem.W.fnOf "__init__" "BadSystem.__init__" (defArgs s_BadSystem_XinitX) (defBody s_BadSystem_XinitX) (defScope s_BadSystem_XinitX) .none kV_BadSystem_XinitX dc_BadSystem_XinitX pm_BadSystem_XinitX an_BadSystem_XinitX cd_BadSystem_XinitX ct_BadSystem_XinitX), sl_BadSystem_XinitX⟩)
    (c_BadSystem_XinitX : PySem.W.codeIn K cd_BadSystem_XinitX "BadSystem.__init__" = true)
    (k_BadSystem_XinitX : PySem.W.keepIn K (.ref f_BadSystem_XinitX) = true)
    (fn_BadSystem_XinitX : PySem.W.isFn K (.ref f_BadSystem_XinitX) = true)
    (fi_BadSystem_XinitX : PySem.W.fnIn K f_BadSystem_XinitX = true)
    (a_Occupied_XinitX : PySem.W.findIn K (.ref c_Occupied) "__init__" = some (some (.ref f_Occupied_XinitX)))
    (l_Occupied_XinitX : K.lookup f_Occupied_XinitX = some ⟨oc_Occupied_XinitX, od_Occupied_XinitX, .func (PySem.W.fnOf "__init__" "Occupied.__init__" (defArgs s_Occupied_XinitX) (defBody s_Occupied_XinitX) (defScope s_Occupied_XinitX) .none kV_Occupied_XinitX dc_Occupied_XinitX pm_Occupied_XinitX an_Occupied_XinitX cd_Occupied_XinitX ct_Occupied_XinitX), sl_Occupied_XinitX⟩)
    (c_Occupied_XinitX : PySem.W.codeIn K cd_Occupied_XinitX "Occupied.__init__" = true)
    (k_Occupied_XinitX : PySem.W.keepIn K (.ref f_Occupied_XinitX) = true)
    (fn_Occupied_XinitX : PySem.W.isFn K (.ref f_Occupied_XinitX) = true)
    (fi_Occupied_XinitX : PySem.W.fnIn K f_Occupied_XinitX = true)
    (a_NotWaiting_XinitX : PySem.W.findIn K (.ref c_NotWaiting) "__init__" = some (some (.ref f_NotWaiting_XinitX)))
    (l_NotWaiting_XinitX : K.lookup f_NotWaiting_XinitX = some ⟨oc_NotWaiting_XinitX, od_NotWaiting_XinitX, .func (PySem.W.fnOf "__init__" "NotWaiting.__init__" (defArgs s_NotWaiting_XinitX) (defBody s_NotWaiting_XinitX) (defScope s_NotWaiting_XinitX) .none kV_NotWaiting_XinitX dc_NotWaiting_XinitX pm_NotWaiting_XinitX an_NotWaiting_XinitX cd_NotWaiting_XinitX ct_NotWaiting_XinitX), sl_NotWaiting_XinitX⟩)
    (c_NotWaiting_XinitX : PySem.W.codeIn K cd_NotWaiting_XinitX "NotWaiting.__init__" = true)
    (k_NotWaiting_XinitX : PySem.W.keepIn K (.ref f_NotWaiting_XinitX) = true)
    (fn_NotWaiting_XinitX : PySem.W.isFn K (.ref f_NotWaiting_XinitX) = true)
    (fi_NotWaiting_XinitX : PySem.W.fnIn K f_NotWaiting_XinitX = true)
    (a_BadRecord_XinitX : PySem.W.findIn K (.ref c_BadRecord) "__init__" = some (some (.ref f_BadRecord_XinitX)))
    (l_BadRecord_XinitX : K.lookup f_BadRecord_XinitX = some ⟨oc_BadRecord_XinitX, od_BadRecord_XinitX, .func (PySem.W.fnOf "__init__" "BadRecord.__init__" (defArgs s_BadRecord_XinitX) (defBody s_BadRecord_XinitX) (defScope s_BadRecord_XinitX) .none kV_BadRecord_XinitX dc_BadRecord_XinitX pm_BadRecord_XinitX an_BadRecord_XinitX cd_BadRecord_XinitX ct_BadRecord_XinitX), sl_BadRecord_XinitX⟩)
    (c_BadRecord_XinitX : PySem.W.codeIn K cd_BadRecord_XinitX "BadRecord.__init__" = true)
    (k_BadRecord_XinitX : PySem.W.keepIn K (.ref f_BadRecord_XinitX) = true)
    (fn_BadRecord_XinitX : PySem.W.isFn K (.ref f_BadRecord_XinitX) = true)
    (fi_BadRecord_XinitX : PySem.W.fnIn K f_BadRecord_XinitX = true)
    (a_Down_XinitX : PySem.W.findIn K (.ref c_Down) "__init__" = some (some (.ref f_Down_XinitX)))
    (l_Down_XinitX : K.lookup f_Down_XinitX = some ⟨oc_Down_XinitX, od_Down_XinitX, .func (PySem.W.fnOf "__init__" "Down.__init__" (defArgs s_Down_XinitX) (defBody s_Down_XinitX) (defScope s_Down_XinitX) .none kV_Down_XinitX dc_Down_XinitX pm_Down_XinitX an_Down_XinitX cd_Down_XinitX ct_Down_XinitX), sl_Down_XinitX⟩)
    (c_Down_XinitX : PySem.W.codeIn K cd_Down_XinitX "Down.__init__" = true)
    (k_Down_XinitX : PySem.W.keepIn K (.ref f_Down_XinitX) = true)
    (fn_Down_XinitX : PySem.W.isFn K (.ref f_Down_XinitX) = true)
    (fi_Down_XinitX : PySem.W.fnIn K f_Down_XinitX = true)
    (a_Unrecorded_XinitX : PySem.W.findIn K (.ref c_Unrecorded) "__init__" = some (some (.ref f_Unrecorded_XinitX)))
    (l_Unrecorded_XinitX : K.lookup f_Unrecorded_XinitX = some ⟨oc_Unrecorded_XinitX, od_Unrecorded_XinitX, .func (PySem.W.fnOf "__init__" "Unrecorded.__init__" (defArgs s_Unrecorded_XinitX) (defBody s_Unrecorded_XinitX) (defScope s_Unrecorded_XinitX) .none kV_Unrecorded_XinitX dc_Unrecorded_XinitX pm_Unrecorded_XinitX an_Unrecorded_XinitX cd_Unrecorded_XinitX ct_Unrecorded_XinitX), sl_Unrecorded_XinitX⟩)
    (c_Unrecorded_XinitX : PySem.W.codeIn K cd_Unrecorded_XinitX "Unrecorded.__init__" = true)
    (k_Unrecorded_XinitX : PySem.W.keepIn K (.ref f_Unrecorded_XinitX) = true)
    (fn_Unrecorded_XinitX : PySem.W.isFn K (.ref f_Unrecorded_XinitX) = true)
    (fi_Unrecorded_XinitX : PySem.W.fnIn K f_Unrecorded_XinitX = true)
    (a_Unchanged_XinitX : PySem.W.findIn K (.ref c_Unchanged) "__init__" = some (some (.ref f_Unchanged_XinitX)))
    (l_Unchanged_XinitX : K.lookup f_Unchanged_XinitX = some ⟨oc_Unchanged_XinitX, od_Unchanged_XinitX, .func (PySem.W.fnOf "__init__" "Unchanged.__init__" (defArgs s_Unchanged_XinitX) (defBody s_Unchanged_XinitX) (defScope s_Unchanged_XinitX) .none kV_Unchanged_XinitX dc_Unchanged_XinitX pm_Unchanged_XinitX an_Unchanged_XinitX cd_Unchanged_XinitX ct_Unchanged_XinitX), sl_Unchanged_XinitX⟩)
    (c_Unchanged_XinitX : PySem.W.codeIn K cd_Unchanged_XinitX "Unchanged.__init__" = true)
    (k_Unchanged_XinitX : PySem.W.keepIn K (.ref f_Unchanged_XinitX) = true)
    (fn_Unchanged_XinitX : PySem.W.isFn K (.ref f_Unchanged_XinitX) = true)
    (fi_Unchanged_XinitX : PySem.W.fnIn K f_Unchanged_XinitX = true)
    (a_TooFew_XinitX : PySem.W.findIn K (.ref c_TooFew) "__init__" = some (some (.ref f_TooFew_XinitX)))
    (l_TooFew_XinitX : K.lookup f_TooFew_XinitX = some ⟨oc_TooFew_XinitX, od_TooFew_XinitX, .func (PySem.W.fnOf "__init__" "TooFew.__init__" (defArgs s_TooFew_XinitX) (defBody s_TooFew_XinitX) (defScope s_TooFew_XinitX) .none kV_TooFew_XinitX dc_TooFew_XinitX pm_TooFew_XinitX an_TooFew_XinitX cd_TooFew_XinitX ct_TooFew_XinitX), sl_TooFew_XinitX⟩)
    (c_TooFew_XinitX : PySem.W.codeIn K cd_TooFew_XinitX "TooFew.__init__" = true)
    (k_TooFew_XinitX : PySem.W.keepIn K (.ref f_TooFew_XinitX) = true)
    (fn_TooFew_XinitX : PySem.W.isFn K (.ref f_TooFew_XinitX) = true)
    (fi_TooFew_XinitX : PySem.W.fnIn K f_TooFew_XinitX = true)
    (a_UnknownField_XinitX : PySem.W.findIn K (.ref c_UnknownField) "__init__" = some (some (.ref f_UnknownField_XinitX)))
    (l_UnknownField_XinitX : K.lookup f_UnknownField_XinitX = some ⟨oc_UnknownField_XinitX, od_UnknownField_XinitX, .func (PySem.W.fnOf "__init__" "UnknownField.__init__" (defArgs s_UnknownField_XinitX) (defBody s_UnknownField_XinitX) (defScope s_UnknownField_XinitX) .none kV_UnknownField_XinitX dc_UnknownField_XinitX pm_UnknownField_XinitX an_UnknownField_XinitX cd_UnknownField_XinitX ct_UnknownField_XinitX), sl_UnknownField_XinitX⟩)
    (c_UnknownField_XinitX : PySem.W.codeIn K cd_UnknownField_XinitX "UnknownField.__init__" = true)
    (k_UnknownField_XinitX : PySem.W.keepIn K (.ref f_UnknownField_XinitX) = true)
    (fn_UnknownField_XinitX : PySem.W.isFn K (.ref f_UnknownField_XinitX) = true)
    (fi_UnknownField_XinitX : PySem.W.fnIn K f_UnknownField_XinitX = true)
    (a_law_source : PySem.W.nsIn K mainGlobals "_law_source" = some (some (.ref f_law_source)))
    (l_law_source : K.lookup f_law_source = some ⟨oc_law_source, od_law_source, .func (PySem.W.fnOf "_law_source" "_law_source" (defArgs s_law_source) (defBody s_law_source) (defScope s_law_source) .none kV_law_source dc_law_source pm_law_source an_law_source cd_law_source ct_law_source), sl_law_source⟩)
    (c_law_source : PySem.W.codeIn K cd_law_source "_law_source" = true)
    (k_law_source : PySem.W.keepIn K (.ref f_law_source) = true)
    (a_law_draw : PySem.W.nsIn K mainGlobals "_law_draw" = some (some (.ref f_law_draw)))
    (l_law_draw : K.lookup f_law_draw = some ⟨oc_law_draw, od_law_draw, .func (PySem.W.fnOf "_law_draw" "_law_draw" (defArgs s_law_draw) (defBody s_law_draw) (defScope s_law_draw) .none kV_law_draw dc_law_draw pm_law_draw an_law_draw cd_law_draw ct_law_draw), sl_law_draw⟩)
    (c_law_draw : PySem.W.codeIn K cd_law_draw "_law_draw" = true)
    (k_law_draw : PySem.W.keepIn K (.ref f_law_draw) = true)
    (a_law_flags : PySem.W.nsIn K mainGlobals "_law_flags" = some (some (.ref f_law_flags)))
    (l_law_flags : K.lookup f_law_flags = some ⟨oc_law_flags, od_law_flags, .func (PySem.W.fnOf "_law_flags" "_law_flags" (defArgs s_law_flags) (defBody s_law_flags) (defScope s_law_flags) .none kV_law_flags dc_law_flags pm_law_flags an_law_flags cd_law_flags ct_law_flags), sl_law_flags⟩)
    (c_law_flags : PySem.W.codeIn K cd_law_flags "_law_flags" = true)
    (k_law_flags : PySem.W.keepIn K (.ref f_law_flags) = true)
    (a_law_kept : PySem.W.nsIn K mainGlobals "_law_kept" = some (some (.ref f_law_kept)))
    (l_law_kept : K.lookup f_law_kept = some ⟨oc_law_kept, od_law_kept, .func (PySem.W.fnOf "_law_kept" "_law_kept" (defArgs s_law_kept) (defBody s_law_kept) (defScope s_law_kept) .none kV_law_kept dc_law_kept pm_law_kept an_law_kept cd_law_kept ct_law_kept), sl_law_kept⟩)
    (c_law_kept : PySem.W.codeIn K cd_law_kept "_law_kept" = true)
    (k_law_kept : PySem.W.keepIn K (.ref f_law_kept) = true)
    (a_law_named : PySem.W.nsIn K mainGlobals "_law_named" = some (some (.ref f_law_named)))
    (l_law_named : K.lookup f_law_named = some ⟨oc_law_named, od_law_named, .func (PySem.W.fnOf "_law_named" "_law_named" (defArgs s_law_named) (defBody s_law_named) (defScope s_law_named) .none kV_law_named dc_law_named pm_law_named an_law_named cd_law_named ct_law_named), sl_law_named⟩)
    (c_law_named : PySem.W.codeIn K cd_law_named "_law_named" = true)
    (k_law_named : PySem.W.keepIn K (.ref f_law_named) = true)
    (a_law_later_kept : PySem.W.nsIn K mainGlobals "_law_later_kept" = some (some (.ref f_law_later_kept)))
    (l_law_later_kept : K.lookup f_law_later_kept = some ⟨oc_law_later_kept, od_law_later_kept, .func (PySem.W.fnOf "_law_later_kept" "_law_later_kept" (defArgs s_law_later_kept) (defBody s_law_later_kept) (defScope s_law_later_kept) .none kV_law_later_kept dc_law_later_kept pm_law_later_kept an_law_later_kept cd_law_later_kept ct_law_later_kept), sl_law_later_kept⟩)
    (c_law_later_kept : PySem.W.codeIn K cd_law_later_kept "_law_later_kept" = true)
    (k_law_later_kept : PySem.W.keepIn K (.ref f_law_later_kept) = true)
    (a_law_later_named : PySem.W.nsIn K mainGlobals "_law_later_named" = some (some (.ref f_law_later_named)))
    (l_law_later_named : K.lookup f_law_later_named = some ⟨oc_law_later_named, od_law_later_named, .func (PySem.W.fnOf "_law_later_named" "_law_later_named" (defArgs s_law_later_named) (defBody s_law_later_named) (defScope s_law_later_named) .none kV_law_later_named dc_law_later_named pm_law_later_named an_law_later_named cd_law_later_named ct_law_later_named), sl_law_later_named⟩)
    (c_law_later_named : PySem.W.codeIn K cd_law_later_named "_law_later_named" = true)
    (k_law_later_named : PySem.W.keepIn K (.ref f_law_later_named) = true)
    (a_law : PySem.W.nsIn K mainGlobals "law" = some (some (.ref f_law)))
    (l_law : K.lookup f_law = some ⟨oc_law, od_law, .func (PySem.W.fnOf "law" "law" (defArgs s_law) (defBody s_law) (defScope s_law) .none kV_law dc_law pm_law an_law cd_law ct_law), sl_law⟩)
    (c_law : PySem.W.codeIn K cd_law "law" = true)
    (k_law : PySem.W.keepIn K (.ref f_law) = true)
    (kt : ktB K c_SourceError [c_BadName, c_BadPath, c_NoFile, c_BadHunk, c_BadPatch, c_Refused, c_Entangled, c_BadSeries, c_Stopped, c_BadRecipe, c_Outside, c_Absent, c_BadArchive, c_NoPlan, c_Unrecorded, c_Unchanged, c_TooFew, c_UnknownField, c_NoOrder, c_NoPatch, c_Clashed, c_BadChoice, c_BadJob, c_BadPlan, c_NoTurn, c_NotClosed, c_BadRelease, c_NoRelease, c_NoChoice, c_BadSystem, c_Occupied, c_NotWaiting, c_BadRecord, c_Down] = true)
    (nd : [c_BadName, c_BadPath, c_NoFile, c_BadHunk, c_BadPatch, c_Refused, c_Entangled, c_BadSeries, c_Stopped, c_BadRecipe, c_Outside, c_Absent, c_BadArchive, c_NoPlan, c_Unrecorded, c_Unchanged, c_TooFew, c_UnknownField, c_NoOrder, c_NoPatch, c_Clashed, c_BadChoice, c_BadJob, c_BadPlan, c_NoTurn, c_NotClosed, c_BadRelease, c_NoRelease, c_NoChoice, c_BadSystem, c_Occupied, c_NotWaiting, c_BadRecord, c_Down].Nodup) :
    ∃ ad : Ad, Txt PySem.Challenge.pw_sourcequeue_k01_errors K mg ad ∧ ad.a_law = fa := by
  have e : fa = f_law := Value.ref.inj (Option.some.inj (hfa.symm.trans (PySem.W.mg_of X G a_law)))
  refine ⟨{ c_SourceError := c_SourceError, c_BadName := c_BadName, c_BadPath := c_BadPath, c_NoFile := c_NoFile, c_BadHunk := c_BadHunk, c_BadPatch := c_BadPatch, c_Refused := c_Refused, c_Entangled := c_Entangled, c_BadSeries := c_BadSeries, c_Stopped := c_Stopped, c_BadRecipe := c_BadRecipe, c_Outside := c_Outside, c_Absent := c_Absent, c_BadArchive := c_BadArchive, c_NoPlan := c_NoPlan, c_NoOrder := c_NoOrder, c_NoPatch := c_NoPatch, c_Clashed := c_Clashed, c_BadChoice := c_BadChoice, c_BadJob := c_BadJob, c_BadPlan := c_BadPlan, c_NoTurn := c_NoTurn, c_NotClosed := c_NotClosed, c_BadRelease := c_BadRelease, c_NoRelease := c_NoRelease, c_NoChoice := c_NoChoice, c_BadSystem := c_BadSystem, c_Occupied := c_Occupied, c_NotWaiting := c_NotWaiting, c_BadRecord := c_BadRecord, c_Down := c_Down, c_Unrecorded := c_Unrecorded, c_Unchanged := c_Unchanged, c_TooFew := c_TooFew, c_UnknownField := c_UnknownField, a_BadName_XinitX := f_BadName_XinitX, d_BadName_XinitX := PySem.W.fnOf "__init__" "BadName.__init__" (defArgs s_BadName_XinitX) (defBody s_BadName_XinitX) (defScope s_BadName_XinitX) .none kV_BadName_XinitX dc_BadName_XinitX pm_BadName_XinitX an_BadName_XinitX cd_BadName_XinitX ct_BadName_XinitX, a_BadPath_XinitX := f_BadPath_XinitX, d_BadPath_XinitX := PySem.W.fnOf "__init__" "BadPath.__init__" (defArgs s_BadPath_XinitX) (defBody s_BadPath_XinitX) (defScope s_BadPath_XinitX) .none kV_BadPath_XinitX dc_BadPath_XinitX pm_BadPath_XinitX an_BadPath_XinitX cd_BadPath_XinitX ct_BadPath_XinitX, a_NoFile_XinitX := f_NoFile_XinitX, d_NoFile_XinitX := PySem.W.fnOf "__init__" "NoFile.__init__" (defArgs s_NoFile_XinitX) (defBody s_NoFile_XinitX) (defScope s_NoFile_XinitX) .none kV_NoFile_XinitX dc_NoFile_XinitX pm_NoFile_XinitX an_NoFile_XinitX cd_NoFile_XinitX ct_NoFile_XinitX, a_BadHunk_XinitX := f_BadHunk_XinitX, d_BadHunk_XinitX := PySem.W.fnOf "__init__" "BadHunk.__init__" (defArgs s_BadHunk_XinitX) (defBody s_BadHunk_XinitX) (defScope s_BadHunk_XinitX) .none kV_BadHunk_XinitX dc_BadHunk_XinitX pm_BadHunk_XinitX an_BadHunk_XinitX cd_BadHunk_XinitX ct_BadHunk_XinitX, a_BadPatch_XinitX := f_BadPatch_XinitX, d_BadPatch_XinitX := PySem.W.fnOf "__init__" "BadPatch.__init__" (defArgs s_BadPatch_XinitX) (defBody s_BadPatch_XinitX) (defScope s_BadPatch_XinitX) .none kV_BadPatch_XinitX dc_BadPatch_XinitX pm_BadPatch_XinitX an_BadPatch_XinitX cd_BadPatch_XinitX ct_BadPatch_XinitX, a_Refused_XinitX := f_Refused_XinitX, d_Refused_XinitX := PySem.W.fnOf "__init__" "Refused.__init__" (defArgs s_Refused_XinitX) (defBody s_Refused_XinitX) (defScope s_Refused_XinitX) .none kV_Refused_XinitX dc_Refused_XinitX pm_Refused_XinitX an_Refused_XinitX cd_Refused_XinitX ct_Refused_XinitX, a_Entangled_XinitX := f_Entangled_XinitX, d_Entangled_XinitX := PySem.W.fnOf "__init__" "Entangled.__init__" (defArgs s_Entangled_XinitX) (defBody s_Entangled_XinitX) (defScope s_Entangled_XinitX) .none kV_Entangled_XinitX dc_Entangled_XinitX pm_Entangled_XinitX an_Entangled_XinitX cd_Entangled_XinitX ct_Entangled_XinitX, a_BadSeries_XinitX := f_BadSeries_XinitX, d_BadSeries_XinitX := PySem.W.fnOf "__init__" "BadSeries.__init__" (defArgs s_BadSeries_XinitX) (defBody s_BadSeries_XinitX) (defScope s_BadSeries_XinitX) .none kV_BadSeries_XinitX dc_BadSeries_XinitX pm_BadSeries_XinitX an_BadSeries_XinitX cd_BadSeries_XinitX ct_BadSeries_XinitX, a_Stopped_XinitX := f_Stopped_XinitX, d_Stopped_XinitX := PySem.W.fnOf "__init__" "Stopped.__init__" (defArgs s_Stopped_XinitX) (defBody s_Stopped_XinitX) (defScope s_Stopped_XinitX) .none kV_Stopped_XinitX dc_Stopped_XinitX pm_Stopped_XinitX an_Stopped_XinitX cd_Stopped_XinitX ct_Stopped_XinitX, a_BadRecipe_XinitX := f_BadRecipe_XinitX, d_BadRecipe_XinitX := PySem.W.fnOf "__init__" "BadRecipe.__init__" (defArgs s_BadRecipe_XinitX) (defBody s_BadRecipe_XinitX) (defScope s_BadRecipe_XinitX) .none kV_BadRecipe_XinitX dc_BadRecipe_XinitX pm_BadRecipe_XinitX an_BadRecipe_XinitX cd_BadRecipe_XinitX ct_BadRecipe_XinitX, a_Outside_XinitX := f_Outside_XinitX, d_Outside_XinitX := PySem.W.fnOf "__init__" "Outside.__init__" (defArgs s_Outside_XinitX) (defBody s_Outside_XinitX) (defScope s_Outside_XinitX) .none kV_Outside_XinitX dc_Outside_XinitX pm_Outside_XinitX an_Outside_XinitX cd_Outside_XinitX ct_Outside_XinitX, a_Absent_XinitX := f_Absent_XinitX, d_Absent_XinitX := PySem.W.fnOf "__init__" "Absent.__init__" (defArgs s_Absent_XinitX) (defBody s_Absent_XinitX) (defScope s_Absent_XinitX) .none kV_Absent_XinitX dc_Absent_XinitX pm_Absent_XinitX an_Absent_XinitX cd_Absent_XinitX ct_Absent_XinitX, a_BadArchive_XinitX := f_BadArchive_XinitX, d_BadArchive_XinitX := PySem.W.fnOf "__init__" "BadArchive.__init__" (defArgs s_BadArchive_XinitX) (defBody s_BadArchive_XinitX) (defScope s_BadArchive_XinitX) .none kV_BadArchive_XinitX dc_BadArchive_XinitX pm_BadArchive_XinitX an_BadArchive_XinitX cd_BadArchive_XinitX ct_BadArchive_XinitX, a_NoPlan_XinitX := f_NoPlan_XinitX, d_NoPlan_XinitX := PySem.W.fnOf "__init__" "NoPlan.__init__" (defArgs s_NoPlan_XinitX) (defBody s_NoPlan_XinitX) (defScope s_NoPlan_XinitX) .none kV_NoPlan_XinitX dc_NoPlan_XinitX pm_NoPlan_XinitX an_NoPlan_XinitX cd_NoPlan_XinitX ct_NoPlan_XinitX, a_NoOrder_XinitX := f_NoOrder_XinitX, d_NoOrder_XinitX := PySem.W.fnOf "__init__" "NoOrder.__init__" (defArgs s_NoOrder_XinitX) (defBody s_NoOrder_XinitX) (defScope s_NoOrder_XinitX) .none kV_NoOrder_XinitX dc_NoOrder_XinitX pm_NoOrder_XinitX an_NoOrder_XinitX cd_NoOrder_XinitX ct_NoOrder_XinitX, a_NoPatch_XinitX := f_NoPatch_XinitX, d_NoPatch_XinitX := PySem.W.fnOf "__init__" "NoPatch.__init__" (defArgs s_NoPatch_XinitX) (defBody s_NoPatch_XinitX) (defScope s_NoPatch_XinitX) .none kV_NoPatch_XinitX dc_NoPatch_XinitX pm_NoPatch_XinitX an_NoPatch_XinitX cd_NoPatch_XinitX ct_NoPatch_XinitX, a_Clashed_XinitX := f_Clashed_XinitX, d_Clashed_XinitX := PySem.W.fnOf "__init__" "Clashed.__init__" (defArgs s_Clashed_XinitX) (defBody s_Clashed_XinitX) (defScope s_Clashed_XinitX) .none kV_Clashed_XinitX dc_Clashed_XinitX pm_Clashed_XinitX an_Clashed_XinitX cd_Clashed_XinitX ct_Clashed_XinitX, a_BadChoice_XinitX := f_BadChoice_XinitX, d_BadChoice_XinitX := PySem.W.fnOf "__init__" "BadChoice.__init__" (defArgs s_BadChoice_XinitX) (defBody s_BadChoice_XinitX) (defScope s_BadChoice_XinitX) .none kV_BadChoice_XinitX dc_BadChoice_XinitX pm_BadChoice_XinitX an_BadChoice_XinitX cd_BadChoice_XinitX ct_BadChoice_XinitX, a_BadJob_XinitX := f_BadJob_XinitX, d_BadJob_XinitX := PySem.W.fnOf "__init__" "BadJob.__init__" (defArgs s_BadJob_XinitX) (defBody s_BadJob_XinitX) (defScope s_BadJob_XinitX) .none kV_BadJob_XinitX dc_BadJob_XinitX pm_BadJob_XinitX an_BadJob_XinitX cd_BadJob_XinitX ct_BadJob_XinitX, a_BadPlan_XinitX := f_BadPlan_XinitX, d_BadPlan_XinitX := PySem.W.fnOf "__init__" "BadPlan.__init__" (defArgs s_BadPlan_XinitX) (defBody s_BadPlan_XinitX) (defScope s_BadPlan_XinitX) .none kV_BadPlan_XinitX dc_BadPlan_XinitX pm_BadPlan_XinitX an_BadPlan_XinitX cd_BadPlan_XinitX ct_BadPlan_XinitX, a_NoTurn_XinitX := f_NoTurn_XinitX, d_NoTurn_XinitX := PySem.W.fnOf "__init__" "NoTurn.__init__" (defArgs s_NoTurn_XinitX) (defBody s_NoTurn_XinitX) (defScope s_NoTurn_XinitX) .none kV_NoTurn_XinitX dc_NoTurn_XinitX pm_NoTurn_XinitX an_NoTurn_XinitX cd_NoTurn_XinitX ct_NoTurn_XinitX, a_NotClosed_XinitX := f_NotClosed_XinitX, d_NotClosed_XinitX := PySem.W.fnOf "__init__" "NotClosed.__init__" (defArgs s_NotClosed_XinitX) (defBody s_NotClosed_XinitX) (defScope s_NotClosed_XinitX) .none kV_NotClosed_XinitX dc_NotClosed_XinitX pm_NotClosed_XinitX an_NotClosed_XinitX cd_NotClosed_XinitX ct_NotClosed_XinitX, a_BadRelease_XinitX := f_BadRelease_XinitX, d_BadRelease_XinitX := PySem.W.fnOf "__init__" "BadRelease.__init__" (defArgs s_BadRelease_XinitX) (defBody s_BadRelease_XinitX) (defScope s_BadRelease_XinitX) .none kV_BadRelease_XinitX dc_BadRelease_XinitX pm_BadRelease_XinitX an_BadRelease_XinitX cd_BadRelease_XinitX ct_BadRelease_XinitX, a_NoRelease_XinitX := f_NoRelease_XinitX, d_NoRelease_XinitX := PySem.W.fnOf "__init__" "NoRelease.__init__" (defArgs s_NoRelease_XinitX) (defBody s_NoRelease_XinitX) (defScope s_NoRelease_XinitX) .none kV_NoRelease_XinitX dc_NoRelease_XinitX pm_NoRelease_XinitX an_NoRelease_XinitX cd_NoRelease_XinitX ct_NoRelease_XinitX, a_NoChoice_XinitX := f_NoChoice_XinitX, d_NoChoice_XinitX := PySem.W.fnOf "__init__" "NoChoice.__init__" (defArgs s_NoChoice_XinitX) (defBody s_NoChoice_XinitX) (defScope s_NoChoice_XinitX) .none kV_NoChoice_XinitX dc_NoChoice_XinitX pm_NoChoice_XinitX an_NoChoice_XinitX cd_NoChoice_XinitX ct_NoChoice_XinitX, a_BadSystem_XinitX := f_BadSystem_XinitX, d_BadSystem_XinitX := PySem.W.fnOf "__init__" "BadSystem.__init__" (defArgs s_BadSystem_XinitX) (defBody s_BadSystem_XinitX) (defScope s_BadSystem_XinitX) .none kV_BadSystem_XinitX dc_BadSystem_XinitX pm_BadSystem_XinitX an_BadSystem_XinitX cd_BadSystem_XinitX ct_BadSystem_XinitX, a_Occupied_XinitX := f_Occupied_XinitX, d_Occupied_XinitX := PySem.W.fnOf "__init__" "Occupied.__init__" (defArgs s_Occupied_XinitX) (defBody s_Occupied_XinitX) (defScope s_Occupied_XinitX) .none kV_Occupied_XinitX dc_Occupied_XinitX pm_Occupied_XinitX an_Occupied_XinitX cd_Occupied_XinitX ct_Occupied_XinitX, a_NotWaiting_XinitX := f_NotWaiting_XinitX, d_NotWaiting_XinitX := PySem.W.fnOf "__init__" "NotWaiting.__init__" (defArgs s_NotWaiting_XinitX) (defBody s_NotWaiting_XinitX) (defScope s_NotWaiting_XinitX) .none kV_NotWaiting_XinitX dc_NotWaiting_XinitX pm_NotWaiting_XinitX an_NotWaiting_XinitX cd_NotWaiting_XinitX ct_NotWaiting_XinitX, a_BadRecord_XinitX := f_BadRecord_XinitX, d_BadRecord_XinitX := PySem.W.fnOf "__init__" "BadRecord.__init__" (defArgs s_BadRecord_XinitX) (defBody s_BadRecord_XinitX) (defScope s_BadRecord_XinitX) .none kV_BadRecord_XinitX dc_BadRecord_XinitX pm_BadRecord_XinitX an_BadRecord_XinitX cd_BadRecord_XinitX ct_BadRecord_XinitX, a_Down_XinitX := f_Down_XinitX, d_Down_XinitX := PySem.W.fnOf "__init__" "Down.__init__" (defArgs s_Down_XinitX) (defBody s_Down_XinitX) (defScope s_Down_XinitX) .none kV_Down_XinitX dc_Down_XinitX pm_Down_XinitX an_Down_XinitX cd_Down_XinitX ct_Down_XinitX, a_Unrecorded_XinitX := f_Unrecorded_XinitX, d_Unrecorded_XinitX := PySem.W.fnOf "__init__" "Unrecorded.__init__" (defArgs s_Unrecorded_XinitX) (defBody s_Unrecorded_XinitX) (defScope s_Unrecorded_XinitX) .none kV_Unrecorded_XinitX dc_Unrecorded_XinitX pm_Unrecorded_XinitX an_Unrecorded_XinitX cd_Unrecorded_XinitX ct_Unrecorded_XinitX, a_Unchanged_XinitX := f_Unchanged_XinitX, d_Unchanged_XinitX := PySem.W.fnOf "__init__" "Unchanged.__init__" (defArgs s_Unchanged_XinitX) (defBody s_Unchanged_XinitX) (defScope s_Unchanged_XinitX) .none kV_Unchanged_XinitX dc_Unchanged_XinitX pm_Unchanged_XinitX an_Unchanged_XinitX cd_Unchanged_XinitX ct_Unchanged_XinitX, a_TooFew_XinitX := f_TooFew_XinitX, d_TooFew_XinitX := PySem.W.fnOf "__init__" "TooFew.__init__" (defArgs s_TooFew_XinitX) (defBody s_TooFew_XinitX) (defScope s_TooFew_XinitX) .none kV_TooFew_XinitX dc_TooFew_XinitX pm_TooFew_XinitX an_TooFew_XinitX cd_TooFew_XinitX ct_TooFew_XinitX, a_UnknownField_XinitX := f_UnknownField_XinitX, d_UnknownField_XinitX := PySem.W.fnOf "__init__" "UnknownField.__init__" (defArgs s_UnknownField_XinitX) (defBody s_UnknownField_XinitX) (defScope s_UnknownField_XinitX) .none kV_UnknownField_XinitX dc_UnknownField_XinitX pm_UnknownField_XinitX an_UnknownField_XinitX cd_UnknownField_XinitX ct_UnknownField_XinitX, a_law_source := f_law_source, d_law_source := PySem.W.fnOf "_law_source" "_law_source" (defArgs s_law_source) (defBody s_law_source) (defScope s_law_source) .none kV_law_source dc_law_source pm_law_source an_law_source cd_law_source ct_law_source, a_law_draw := f_law_draw, d_law_draw := PySem.W.fnOf "_law_draw" "_law_draw" (defArgs s_law_draw) (defBody s_law_draw) (defScope s_law_draw) .none kV_law_draw dc_law_draw pm_law_draw an_law_draw cd_law_draw ct_law_draw, a_law_flags := f_law_flags, d_law_flags := PySem.W.fnOf "_law_flags" "_law_flags" (defArgs s_law_flags) (defBody s_law_flags) (defScope s_law_flags) .none kV_law_flags dc_law_flags pm_law_flags an_law_flags cd_law_flags ct_law_flags, a_law_kept := f_law_kept, d_law_kept := PySem.W.fnOf "_law_kept" "_law_kept" (defArgs s_law_kept) (defBody s_law_kept) (defScope s_law_kept) .none kV_law_kept dc_law_kept pm_law_kept an_law_kept cd_law_kept ct_law_kept, a_law_named := f_law_named, d_law_named := PySem.W.fnOf "_law_named" "_law_named" (defArgs s_law_named) (defBody s_law_named) (defScope s_law_named) .none kV_law_named dc_law_named pm_law_named an_law_named cd_law_named ct_law_named, a_law_later_kept := f_law_later_kept, d_law_later_kept := PySem.W.fnOf "_law_later_kept" "_law_later_kept" (defArgs s_law_later_kept) (defBody s_law_later_kept) (defScope s_law_later_kept) .none kV_law_later_kept dc_law_later_kept pm_law_later_kept an_law_later_kept cd_law_later_kept ct_law_later_kept, a_law_later_named := f_law_later_named, d_law_later_named := PySem.W.fnOf "_law_later_named" "_law_later_named" (defArgs s_law_later_named) (defBody s_law_later_named) (defScope s_law_later_named) .none kV_law_later_named dc_law_later_named pm_law_later_named an_law_later_named cd_law_later_named ct_law_later_named, a_law := f_law, d_law := PySem.W.fnOf "law" "law" (defArgs s_law) (defBody s_law) (defScope s_law) .none kV_law dc_law pm_law an_law cd_law ct_law }, ?_, e.symm⟩
  exact {
    n_ValueError := PySem.W.mg_none_of X G zValueError,
    n_int := PySem.W.mg_none_of X G zint,
    n_isinstance := PySem.W.mg_none_of X G zisinstance,
    n_len := PySem.W.mg_none_of X G zlen,
    n_max := PySem.W.mg_none_of X G zmax,
    n_min := PySem.W.mg_none_of X G zmin,
    n_range := PySem.W.mg_none_of X G zrange,
    n_tuple := PySem.W.mg_none_of X G ztuple,
    hnx := hnx,
    tkx := tkx,
    mg_SourceError := PySem.W.mg_of X G mgx_SourceError,
    bi_SourceError := ⟨⟨rd_SourceError, rg_SourceError⟩, ri_SourceError⟩,
    mg_BadName := PySem.W.mg_of X G mgx_BadName,
    ox_BadName := ox_BadName.mkF hnx tkx a_BadName_XinitX fn_BadName_XinitX,
    na_BadName_name := na_BadName_name,
    mg_BadPath := PySem.W.mg_of X G mgx_BadPath,
    ox_BadPath := ox_BadPath.mkF hnx tkx a_BadPath_XinitX fn_BadPath_XinitX,
    na_BadPath_path := na_BadPath_path,
    mg_NoFile := PySem.W.mg_of X G mgx_NoFile,
    ox_NoFile := ox_NoFile.mkF hnx tkx a_NoFile_XinitX fn_NoFile_XinitX,
    na_NoFile_path := na_NoFile_path,
    mg_BadHunk := PySem.W.mg_of X G mgx_BadHunk,
    ox_BadHunk := ox_BadHunk.mkF hnx tkx a_BadHunk_XinitX fn_BadHunk_XinitX,
    na_BadHunk_index := na_BadHunk_index,
    mg_BadPatch := PySem.W.mg_of X G mgx_BadPatch,
    ox_BadPatch := ox_BadPatch.mkF hnx tkx a_BadPatch_XinitX fn_BadPatch_XinitX,
    na_BadPatch_path := na_BadPatch_path,
    mg_Refused := PySem.W.mg_of X G mgx_Refused,
    ox_Refused := ox_Refused.mkF hnx tkx a_Refused_XinitX fn_Refused_XinitX,
    na_Refused_path := na_Refused_path,
    na_Refused_index := na_Refused_index,
    mg_Entangled := PySem.W.mg_of X G mgx_Entangled,
    ox_Entangled := ox_Entangled.mkF hnx tkx a_Entangled_XinitX fn_Entangled_XinitX,
    na_Entangled_path := na_Entangled_path,
    mg_BadSeries := PySem.W.mg_of X G mgx_BadSeries,
    ox_BadSeries := ox_BadSeries.mkF hnx tkx a_BadSeries_XinitX fn_BadSeries_XinitX,
    na_BadSeries_index := na_BadSeries_index,
    mg_Stopped := PySem.W.mg_of X G mgx_Stopped,
    ox_Stopped := ox_Stopped.mkF hnx tkx a_Stopped_XinitX fn_Stopped_XinitX,
    na_Stopped_index := na_Stopped_index,
    mg_BadRecipe := PySem.W.mg_of X G mgx_BadRecipe,
    ox_BadRecipe := ox_BadRecipe.mkF hnx tkx a_BadRecipe_XinitX fn_BadRecipe_XinitX,
    na_BadRecipe_index := na_BadRecipe_index,
    mg_Outside := PySem.W.mg_of X G mgx_Outside,
    ox_Outside := ox_Outside.mkF hnx tkx a_Outside_XinitX fn_Outside_XinitX,
    na_Outside_output := na_Outside_output,
    na_Outside_read := na_Outside_read,
    mg_Absent := PySem.W.mg_of X G mgx_Absent,
    ox_Absent := ox_Absent.mkF hnx tkx a_Absent_XinitX fn_Absent_XinitX,
    na_Absent_output := na_Absent_output,
    na_Absent_read := na_Absent_read,
    mg_BadArchive := PySem.W.mg_of X G mgx_BadArchive,
    ox_BadArchive := ox_BadArchive.mkF hnx tkx a_BadArchive_XinitX fn_BadArchive_XinitX,
    na_BadArchive_name := na_BadArchive_name,
    mg_NoPlan := PySem.W.mg_of X G mgx_NoPlan,
    ox_NoPlan := ox_NoPlan.mkF hnx tkx a_NoPlan_XinitX fn_NoPlan_XinitX,
    na_NoPlan_ring := na_NoPlan_ring,
    mg_NoOrder := PySem.W.mg_of X G mgx_NoOrder,
    ox_NoOrder := ox_NoOrder.mkF hnx tkx a_NoOrder_XinitX fn_NoOrder_XinitX,
    mg_NoPatch := PySem.W.mg_of X G mgx_NoPatch,
    ox_NoPatch := ox_NoPatch.mkF hnx tkx a_NoPatch_XinitX fn_NoPatch_XinitX,
    na_NoPatch_name := na_NoPatch_name,
    mg_Clashed := PySem.W.mg_of X G mgx_Clashed,
    ox_Clashed := ox_Clashed.mkF hnx tkx a_Clashed_XinitX fn_Clashed_XinitX,
    na_Clashed_ours := na_Clashed_ours,
    na_Clashed_theirs := na_Clashed_theirs,
    mg_BadChoice := PySem.W.mg_of X G mgx_BadChoice,
    ox_BadChoice := ox_BadChoice.mkF hnx tkx a_BadChoice_XinitX fn_BadChoice_XinitX,
    na_BadChoice_name := na_BadChoice_name,
    mg_BadJob := PySem.W.mg_of X G mgx_BadJob,
    ox_BadJob := ox_BadJob.mkF hnx tkx a_BadJob_XinitX fn_BadJob_XinitX,
    na_BadJob_index := na_BadJob_index,
    mg_BadPlan := PySem.W.mg_of X G mgx_BadPlan,
    ox_BadPlan := ox_BadPlan.mkF hnx tkx a_BadPlan_XinitX fn_BadPlan_XinitX,
    mg_NoTurn := PySem.W.mg_of X G mgx_NoTurn,
    ox_NoTurn := ox_NoTurn.mkF hnx tkx a_NoTurn_XinitX fn_NoTurn_XinitX,
    na_NoTurn_count := na_NoTurn_count,
    mg_NotClosed := PySem.W.mg_of X G mgx_NotClosed,
    ox_NotClosed := ox_NotClosed.mkF hnx tkx a_NotClosed_XinitX fn_NotClosed_XinitX,
    na_NotClosed_index := na_NotClosed_index,
    mg_BadRelease := PySem.W.mg_of X G mgx_BadRelease,
    ox_BadRelease := ox_BadRelease.mkF hnx tkx a_BadRelease_XinitX fn_BadRelease_XinitX,
    na_BadRelease_name := na_BadRelease_name,
    na_BadRelease_number := na_BadRelease_number,
    mg_NoRelease := PySem.W.mg_of X G mgx_NoRelease,
    ox_NoRelease := ox_NoRelease.mkF hnx tkx a_NoRelease_XinitX fn_NoRelease_XinitX,
    na_NoRelease_name := na_NoRelease_name,
    na_NoRelease_number := na_NoRelease_number,
    mg_NoChoice := PySem.W.mg_of X G mgx_NoChoice,
    ox_NoChoice := ox_NoChoice.mkF hnx tkx a_NoChoice_XinitX fn_NoChoice_XinitX,
    mg_BadSystem := PySem.W.mg_of X G mgx_BadSystem,
    ox_BadSystem := ox_BadSystem.mkF hnx tkx a_BadSystem_XinitX fn_BadSystem_XinitX,
    na_BadSystem_name := na_BadSystem_name,
    mg_Occupied := PySem.W.mg_of X G mgx_Occupied,
    ox_Occupied := ox_Occupied.mkF hnx tkx a_Occupied_XinitX fn_Occupied_XinitX,
    na_Occupied_path := na_Occupied_path,
    mg_NotWaiting := PySem.W.mg_of X G mgx_NotWaiting,
    ox_NotWaiting := ox_NotWaiting.mkF hnx tkx a_NotWaiting_XinitX fn_NotWaiting_XinitX,
    na_NotWaiting_path := na_NotWaiting_path,
    mg_BadRecord := PySem.W.mg_of X G mgx_BadRecord,
    ox_BadRecord := ox_BadRecord.mkF hnx tkx a_BadRecord_XinitX fn_BadRecord_XinitX,
    na_BadRecord_name := na_BadRecord_name,
    mg_Down := PySem.W.mg_of X G mgx_Down,
    ox_Down := ox_Down.mkF hnx tkx a_Down_XinitX fn_Down_XinitX,
    mg_Unrecorded := PySem.W.mg_of X G mgx_Unrecorded,
    ox_Unrecorded := ox_Unrecorded.mkF hnx tkx a_Unrecorded_XinitX fn_Unrecorded_XinitX,
    mg_Unchanged := PySem.W.mg_of X G mgx_Unchanged,
    ox_Unchanged := ox_Unchanged.mkF hnx tkx a_Unchanged_XinitX fn_Unchanged_XinitX,
    mg_TooFew := PySem.W.mg_of X G mgx_TooFew,
    ox_TooFew := ox_TooFew.mkF hnx tkx a_TooFew_XinitX fn_TooFew_XinitX,
    na_TooFew_count := na_TooFew_count,
    mg_UnknownField := PySem.W.mg_of X G mgx_UnknownField,
    ox_UnknownField := ox_UnknownField.mkF hnx tkx a_UnknownField_XinitX fn_UnknownField_XinitX,
    na_UnknownField_name := na_UnknownField_name,
    kb_UnknownField_name := (fun_mk (st := s_UnknownField_XinitX) l_UnknownField_XinitX c_UnknownField_XinitX k_UnknownField_XinitX).kbn (fun _ _ _ _ _ _ us ws h1 h2 => match us, ws, h1, h2 with | [_], [_], _, _ => rfl) (fun r1 r2 => r1.append r2),
    kb_TooFew_count := (fun_mk (st := s_TooFew_XinitX) l_TooFew_XinitX c_TooFew_XinitX k_TooFew_XinitX).kbn (fun _ _ _ _ _ _ us ws h1 h2 => match us, ws, h1, h2 with | [_], [_], _, _ => rfl) (fun r1 r2 => r1.append r2),
    kb_NoPlan_ring := (fun_mk (st := s_NoPlan_XinitX) l_NoPlan_XinitX c_NoPlan_XinitX k_NoPlan_XinitX).kbn (fun _ _ _ _ _ _ us ws h1 h2 => match us, ws, h1, h2 with | [_], [_], _, _ => rfl) (fun r1 r2 => r1.append r2),
    kb_BadArchive_name := (fun_mk (st := s_BadArchive_XinitX) l_BadArchive_XinitX c_BadArchive_XinitX k_BadArchive_XinitX).kbn (fun _ _ _ _ _ _ us ws h1 h2 => match us, ws, h1, h2 with | [_], [_], _, _ => rfl) (fun r1 r2 => r1.append r2),
    kb_Absent_output_read := (fun_mk (st := s_Absent_XinitX) l_Absent_XinitX c_Absent_XinitX k_Absent_XinitX).kbn (fun _ _ _ _ _ _ us ws h1 h2 => match us, ws, h1, h2 with | [_], [_, _], _, _ => rfl) (fun r1 r2 => r1.append r2),
    kb_Outside_output_read := (fun_mk (st := s_Outside_XinitX) l_Outside_XinitX c_Outside_XinitX k_Outside_XinitX).kbn (fun _ _ _ _ _ _ us ws h1 h2 => match us, ws, h1, h2 with | [_], [_, _], _, _ => rfl) (fun r1 r2 => r1.append r2),
    kb_BadRecipe_index := (fun_mk (st := s_BadRecipe_XinitX) l_BadRecipe_XinitX c_BadRecipe_XinitX k_BadRecipe_XinitX).kbn (fun _ _ _ _ _ _ us ws h1 h2 => match us, ws, h1, h2 with | [_], [_], _, _ => rfl) (fun r1 r2 => r1.append r2),
    kb_Stopped_index := (fun_mk (st := s_Stopped_XinitX) l_Stopped_XinitX c_Stopped_XinitX k_Stopped_XinitX).kbn (fun _ _ _ _ _ _ us ws h1 h2 => match us, ws, h1, h2 with | [_], [_], _, _ => rfl) (fun r1 r2 => r1.append r2),
    kb_BadSeries_index := (fun_mk (st := s_BadSeries_XinitX) l_BadSeries_XinitX c_BadSeries_XinitX k_BadSeries_XinitX).kbn (fun _ _ _ _ _ _ us ws h1 h2 => match us, ws, h1, h2 with | [_], [_], _, _ => rfl) (fun r1 r2 => r1.append r2),
    kb_Entangled_path := (fun_mk (st := s_Entangled_XinitX) l_Entangled_XinitX c_Entangled_XinitX k_Entangled_XinitX).kbn (fun _ _ _ _ _ _ us ws h1 h2 => match us, ws, h1, h2 with | [_], [_], _, _ => rfl) (fun r1 r2 => r1.append r2),
    kb_BadPatch_path := (fun_mk (st := s_BadPatch_XinitX) l_BadPatch_XinitX c_BadPatch_XinitX k_BadPatch_XinitX).kbn (fun _ _ _ _ _ _ us ws h1 h2 => match us, ws, h1, h2 with | [_], [_], _, _ => rfl) (fun r1 r2 => r1.append r2),
    kb_Refused_path_index := (fun_mk (st := s_Refused_XinitX) l_Refused_XinitX c_Refused_XinitX k_Refused_XinitX).kbn (fun _ _ _ _ _ _ us ws h1 h2 => match us, ws, h1, h2 with | [_], [_, _], _, _ => rfl) (fun r1 r2 => r1.append r2),
    kb_BadHunk_index := (fun_mk (st := s_BadHunk_XinitX) l_BadHunk_XinitX c_BadHunk_XinitX k_BadHunk_XinitX).kbn (fun _ _ _ _ _ _ us ws h1 h2 => match us, ws, h1, h2 with | [_], [_], _, _ => rfl) (fun r1 r2 => r1.append r2),
    kb_NoFile_path := (fun_mk (st := s_NoFile_XinitX) l_NoFile_XinitX c_NoFile_XinitX k_NoFile_XinitX).kbn (fun _ _ _ _ _ _ us ws h1 h2 => match us, ws, h1, h2 with | [_], [_], _, _ => rfl) (fun r1 r2 => r1.append r2),
    kb_BadPath_path := (fun_mk (st := s_BadPath_XinitX) l_BadPath_XinitX c_BadPath_XinitX k_BadPath_XinitX).kbn (fun _ _ _ _ _ _ us ws h1 h2 => match us, ws, h1, h2 with | [_], [_], _, _ => rfl) (fun r1 r2 => r1.append r2),
    kb_BadName_name := (fun_mk (st := s_BadName_XinitX) l_BadName_XinitX c_BadName_XinitX k_BadName_XinitX).kbn (fun _ _ _ _ _ _ us ws h1 h2 => match us, ws, h1, h2 with | [_], [_], _, _ => rfl) (fun r1 r2 => r1.append r2),
    kb_BadRecord_name := (fun_mk (st := s_BadRecord_XinitX) l_BadRecord_XinitX c_BadRecord_XinitX k_BadRecord_XinitX).kbn (fun _ _ _ _ _ _ us ws h1 h2 => match us, ws, h1, h2 with | [_], [_], _, _ => rfl) (fun r1 r2 => r1.append r2),
    kb_NotWaiting_path := (fun_mk (st := s_NotWaiting_XinitX) l_NotWaiting_XinitX c_NotWaiting_XinitX k_NotWaiting_XinitX).kbn (fun _ _ _ _ _ _ us ws h1 h2 => match us, ws, h1, h2 with | [_], [_], _, _ => rfl) (fun r1 r2 => r1.append r2),
    kb_Occupied_path := (fun_mk (st := s_Occupied_XinitX) l_Occupied_XinitX c_Occupied_XinitX k_Occupied_XinitX).kbn (fun _ _ _ _ _ _ us ws h1 h2 => match us, ws, h1, h2 with | [_], [_], _, _ => rfl) (fun r1 r2 => r1.append r2),
    kb_BadSystem_name := (fun_mk (st := s_BadSystem_XinitX) l_BadSystem_XinitX c_BadSystem_XinitX k_BadSystem_XinitX).kbn (fun _ _ _ _ _ _ us ws h1 h2 => match us, ws, h1, h2 with | [_], [_], _, _ => rfl) (fun r1 r2 => r1.append r2),
    kb_NotClosed_index := (fun_mk (st := s_NotClosed_XinitX) l_NotClosed_XinitX c_NotClosed_XinitX k_NotClosed_XinitX).kbn (fun _ _ _ _ _ _ us ws h1 h2 => match us, ws, h1, h2 with | [_], [_], _, _ => rfl) (fun r1 r2 => r1.append r2),
    kb_NoTurn_count := (fun_mk (st := s_NoTurn_XinitX) l_NoTurn_XinitX c_NoTurn_XinitX k_NoTurn_XinitX).kbn (fun _ _ _ _ _ _ us ws h1 h2 => match us, ws, h1, h2 with | [_], [_], _, _ => rfl) (fun r1 r2 => r1.append r2),
    kb_BadJob_index := (fun_mk (st := s_BadJob_XinitX) l_BadJob_XinitX c_BadJob_XinitX k_BadJob_XinitX).kbn (fun _ _ _ _ _ _ us ws h1 h2 => match us, ws, h1, h2 with | [_], [_], _, _ => rfl) (fun r1 r2 => r1.append r2),
    kb_BadChoice_name := (fun_mk (st := s_BadChoice_XinitX) l_BadChoice_XinitX c_BadChoice_XinitX k_BadChoice_XinitX).kbn (fun _ _ _ _ _ _ us ws h1 h2 => match us, ws, h1, h2 with | [_], [_], _, _ => rfl) (fun r1 r2 => r1.append r2),
    kb_NoPatch_name := (fun_mk (st := s_NoPatch_XinitX) l_NoPatch_XinitX c_NoPatch_XinitX k_NoPatch_XinitX).kbn (fun _ _ _ _ _ _ us ws h1 h2 => match us, ws, h1, h2 with | [_], [_], _, _ => rfl) (fun r1 r2 => r1.append r2),
    kb_NoRelease_name_number := (fun_mk (st := s_NoRelease_XinitX) l_NoRelease_XinitX c_NoRelease_XinitX k_NoRelease_XinitX).kbn (fun _ _ _ _ _ _ us ws h1 h2 => match us, ws, h1, h2 with | [_], [_, _], _, _ => rfl) (fun r1 r2 => r1.append r2),
    kb_BadRelease_number_name := (fun_mk (st := s_BadRelease_XinitX) l_BadRelease_XinitX c_BadRelease_XinitX k_BadRelease_XinitX).kbn (fun _ _ _ _ _ _ us ws h1 h2 => match us, ws, h1, h2 with | [_], [_, _], _, _ => rfl) (fun r1 r2 => r1.append (vals_rev r2)),
    kb_Clashed_theirs_ours := (fun_mk (st := s_Clashed_XinitX) l_Clashed_XinitX c_Clashed_XinitX k_Clashed_XinitX).kbn (fun _ _ _ _ _ _ us ws h1 h2 => match us, ws, h1, h2 with | [_], [_, _], _, _ => rfl) (fun r1 r2 => r1.append (vals_rev r2)),
    f_BadName_XinitX := fun_mk (st := s_BadName_XinitX) l_BadName_XinitX c_BadName_XinitX k_BadName_XinitX,
    b_BadName_XinitX := (fun_mk (st := s_BadName_XinitX) l_BadName_XinitX c_BadName_XinitX k_BadName_XinitX).binds (ps := ["self", "name"]) fun _ _ _ _ _ _ us hl => match us, hl with | [_, _], _ => rfl,
    fn_BadName_XinitX := fn_BadName_XinitX,
    fi_BadName_XinitX := fi_BadName_XinitX,
    k_BadName_XinitX := k_BadName_XinitX,
    f_BadPath_XinitX := fun_mk (st := s_BadPath_XinitX) l_BadPath_XinitX c_BadPath_XinitX k_BadPath_XinitX,
    b_BadPath_XinitX := (fun_mk (st := s_BadPath_XinitX) l_BadPath_XinitX c_BadPath_XinitX k_BadPath_XinitX).binds (ps := ["self", "path"]) fun _ _ _ _ _ _ us hl => match us, hl with | [_, _], _ => rfl,
    fn_BadPath_XinitX := fn_BadPath_XinitX,
    fi_BadPath_XinitX := fi_BadPath_XinitX,
    k_BadPath_XinitX := k_BadPath_XinitX,
    f_NoFile_XinitX := fun_mk (st := s_NoFile_XinitX) l_NoFile_XinitX c_NoFile_XinitX k_NoFile_XinitX,
    b_NoFile_XinitX := (fun_mk (st := s_NoFile_XinitX) l_NoFile_XinitX c_NoFile_XinitX k_NoFile_XinitX).binds (ps := ["self", "path"]) fun _ _ _ _ _ _ us hl => match us, hl with | [_, _], _ => rfl,
    fn_NoFile_XinitX := fn_NoFile_XinitX,
    fi_NoFile_XinitX := fi_NoFile_XinitX,
    k_NoFile_XinitX := k_NoFile_XinitX,
    f_BadHunk_XinitX := fun_mk (st := s_BadHunk_XinitX) l_BadHunk_XinitX c_BadHunk_XinitX k_BadHunk_XinitX,
    b_BadHunk_XinitX := (fun_mk (st := s_BadHunk_XinitX) l_BadHunk_XinitX c_BadHunk_XinitX k_BadHunk_XinitX).binds (ps := ["self", "index"]) fun _ _ _ _ _ _ us hl => match us, hl with | [_, _], _ => rfl,
    fn_BadHunk_XinitX := fn_BadHunk_XinitX,
    fi_BadHunk_XinitX := fi_BadHunk_XinitX,
    k_BadHunk_XinitX := k_BadHunk_XinitX,
    f_BadPatch_XinitX := fun_mk (st := s_BadPatch_XinitX) l_BadPatch_XinitX c_BadPatch_XinitX k_BadPatch_XinitX,
    b_BadPatch_XinitX := (fun_mk (st := s_BadPatch_XinitX) l_BadPatch_XinitX c_BadPatch_XinitX k_BadPatch_XinitX).binds (ps := ["self", "path"]) fun _ _ _ _ _ _ us hl => match us, hl with | [_, _], _ => rfl,
    fn_BadPatch_XinitX := fn_BadPatch_XinitX,
    fi_BadPatch_XinitX := fi_BadPatch_XinitX,
    k_BadPatch_XinitX := k_BadPatch_XinitX,
    f_Refused_XinitX := fun_mk (st := s_Refused_XinitX) l_Refused_XinitX c_Refused_XinitX k_Refused_XinitX,
    b_Refused_XinitX := (fun_mk (st := s_Refused_XinitX) l_Refused_XinitX c_Refused_XinitX k_Refused_XinitX).binds (ps := ["self", "path", "index"]) fun _ _ _ _ _ _ us hl => match us, hl with | [_, _, _], _ => rfl,
    fn_Refused_XinitX := fn_Refused_XinitX,
    fi_Refused_XinitX := fi_Refused_XinitX,
    k_Refused_XinitX := k_Refused_XinitX,
    f_Entangled_XinitX := fun_mk (st := s_Entangled_XinitX) l_Entangled_XinitX c_Entangled_XinitX k_Entangled_XinitX,
    b_Entangled_XinitX := (fun_mk (st := s_Entangled_XinitX) l_Entangled_XinitX c_Entangled_XinitX k_Entangled_XinitX).binds (ps := ["self", "path"]) fun _ _ _ _ _ _ us hl => match us, hl with | [_, _], _ => rfl,
    fn_Entangled_XinitX := fn_Entangled_XinitX,
    fi_Entangled_XinitX := fi_Entangled_XinitX,
    k_Entangled_XinitX := k_Entangled_XinitX,
    f_BadSeries_XinitX := fun_mk (st := s_BadSeries_XinitX) l_BadSeries_XinitX c_BadSeries_XinitX k_BadSeries_XinitX,
    b_BadSeries_XinitX := (fun_mk (st := s_BadSeries_XinitX) l_BadSeries_XinitX c_BadSeries_XinitX k_BadSeries_XinitX).binds (ps := ["self", "index"]) fun _ _ _ _ _ _ us hl => match us, hl with | [_, _], _ => rfl,
    fn_BadSeries_XinitX := fn_BadSeries_XinitX,
    fi_BadSeries_XinitX := fi_BadSeries_XinitX,
    k_BadSeries_XinitX := k_BadSeries_XinitX,
    f_Stopped_XinitX := fun_mk (st := s_Stopped_XinitX) l_Stopped_XinitX c_Stopped_XinitX k_Stopped_XinitX,
    b_Stopped_XinitX := (fun_mk (st := s_Stopped_XinitX) l_Stopped_XinitX c_Stopped_XinitX k_Stopped_XinitX).binds (ps := ["self", "index"]) fun _ _ _ _ _ _ us hl => match us, hl with | [_, _], _ => rfl,
    fn_Stopped_XinitX := fn_Stopped_XinitX,
    fi_Stopped_XinitX := fi_Stopped_XinitX,
    k_Stopped_XinitX := k_Stopped_XinitX,
    f_BadRecipe_XinitX := fun_mk (st := s_BadRecipe_XinitX) l_BadRecipe_XinitX c_BadRecipe_XinitX k_BadRecipe_XinitX,
    b_BadRecipe_XinitX := (fun_mk (st := s_BadRecipe_XinitX) l_BadRecipe_XinitX c_BadRecipe_XinitX k_BadRecipe_XinitX).binds (ps := ["self", "index"]) fun _ _ _ _ _ _ us hl => match us, hl with | [_, _], _ => rfl,
    fn_BadRecipe_XinitX := fn_BadRecipe_XinitX,
    fi_BadRecipe_XinitX := fi_BadRecipe_XinitX,
    k_BadRecipe_XinitX := k_BadRecipe_XinitX,
    f_Outside_XinitX := fun_mk (st := s_Outside_XinitX) l_Outside_XinitX c_Outside_XinitX k_Outside_XinitX,
    b_Outside_XinitX := (fun_mk (st := s_Outside_XinitX) l_Outside_XinitX c_Outside_XinitX k_Outside_XinitX).binds (ps := ["self", "output", "read"]) fun _ _ _ _ _ _ us hl => match us, hl with | [_, _, _], _ => rfl,
    fn_Outside_XinitX := fn_Outside_XinitX,
    fi_Outside_XinitX := fi_Outside_XinitX,
    k_Outside_XinitX := k_Outside_XinitX,
    f_Absent_XinitX := fun_mk (st := s_Absent_XinitX) l_Absent_XinitX c_Absent_XinitX k_Absent_XinitX,
    b_Absent_XinitX := (fun_mk (st := s_Absent_XinitX) l_Absent_XinitX c_Absent_XinitX k_Absent_XinitX).binds (ps := ["self", "output", "read"]) fun _ _ _ _ _ _ us hl => match us, hl with | [_, _, _], _ => rfl,
    fn_Absent_XinitX := fn_Absent_XinitX,
    fi_Absent_XinitX := fi_Absent_XinitX,
    k_Absent_XinitX := k_Absent_XinitX,
    f_BadArchive_XinitX := fun_mk (st := s_BadArchive_XinitX) l_BadArchive_XinitX c_BadArchive_XinitX k_BadArchive_XinitX,
    b_BadArchive_XinitX := (fun_mk (st := s_BadArchive_XinitX) l_BadArchive_XinitX c_BadArchive_XinitX k_BadArchive_XinitX).binds (ps := ["self", "name"]) fun _ _ _ _ _ _ us hl => match us, hl with | [_, _], _ => rfl,
    fn_BadArchive_XinitX := fn_BadArchive_XinitX,
    fi_BadArchive_XinitX := fi_BadArchive_XinitX,
    k_BadArchive_XinitX := k_BadArchive_XinitX,
    f_NoPlan_XinitX := fun_mk (st := s_NoPlan_XinitX) l_NoPlan_XinitX c_NoPlan_XinitX k_NoPlan_XinitX,
    b_NoPlan_XinitX := (fun_mk (st := s_NoPlan_XinitX) l_NoPlan_XinitX c_NoPlan_XinitX k_NoPlan_XinitX).binds (ps := ["self", "ring"]) fun _ _ _ _ _ _ us hl => match us, hl with | [_, _], _ => rfl,
    fn_NoPlan_XinitX := fn_NoPlan_XinitX,
    fi_NoPlan_XinitX := fi_NoPlan_XinitX,
    k_NoPlan_XinitX := k_NoPlan_XinitX,
    f_NoOrder_XinitX := fun_mk (st := s_NoOrder_XinitX) l_NoOrder_XinitX c_NoOrder_XinitX k_NoOrder_XinitX,
    b_NoOrder_XinitX := (fun_mk (st := s_NoOrder_XinitX) l_NoOrder_XinitX c_NoOrder_XinitX k_NoOrder_XinitX).binds (ps := ["self"]) fun _ _ _ _ _ _ us hl => match us, hl with | [_], _ => rfl,
    fn_NoOrder_XinitX := fn_NoOrder_XinitX,
    fi_NoOrder_XinitX := fi_NoOrder_XinitX,
    k_NoOrder_XinitX := k_NoOrder_XinitX,
    f_NoPatch_XinitX := fun_mk (st := s_NoPatch_XinitX) l_NoPatch_XinitX c_NoPatch_XinitX k_NoPatch_XinitX,
    b_NoPatch_XinitX := (fun_mk (st := s_NoPatch_XinitX) l_NoPatch_XinitX c_NoPatch_XinitX k_NoPatch_XinitX).binds (ps := ["self", "name"]) fun _ _ _ _ _ _ us hl => match us, hl with | [_, _], _ => rfl,
    fn_NoPatch_XinitX := fn_NoPatch_XinitX,
    fi_NoPatch_XinitX := fi_NoPatch_XinitX,
    k_NoPatch_XinitX := k_NoPatch_XinitX,
    f_Clashed_XinitX := fun_mk (st := s_Clashed_XinitX) l_Clashed_XinitX c_Clashed_XinitX k_Clashed_XinitX,
    b_Clashed_XinitX := (fun_mk (st := s_Clashed_XinitX) l_Clashed_XinitX c_Clashed_XinitX k_Clashed_XinitX).binds (ps := ["self", "ours", "theirs"]) fun _ _ _ _ _ _ us hl => match us, hl with | [_, _, _], _ => rfl,
    fn_Clashed_XinitX := fn_Clashed_XinitX,
    fi_Clashed_XinitX := fi_Clashed_XinitX,
    k_Clashed_XinitX := k_Clashed_XinitX,
    f_BadChoice_XinitX := fun_mk (st := s_BadChoice_XinitX) l_BadChoice_XinitX c_BadChoice_XinitX k_BadChoice_XinitX,
    b_BadChoice_XinitX := (fun_mk (st := s_BadChoice_XinitX) l_BadChoice_XinitX c_BadChoice_XinitX k_BadChoice_XinitX).binds (ps := ["self", "name"]) fun _ _ _ _ _ _ us hl => match us, hl with | [_, _], _ => rfl,
    fn_BadChoice_XinitX := fn_BadChoice_XinitX,
    fi_BadChoice_XinitX := fi_BadChoice_XinitX,
    k_BadChoice_XinitX := k_BadChoice_XinitX,
    f_BadJob_XinitX := fun_mk (st := s_BadJob_XinitX) l_BadJob_XinitX c_BadJob_XinitX k_BadJob_XinitX,
    b_BadJob_XinitX := (fun_mk (st := s_BadJob_XinitX) l_BadJob_XinitX c_BadJob_XinitX k_BadJob_XinitX).binds (ps := ["self", "index"]) fun _ _ _ _ _ _ us hl => match us, hl with | [_, _], _ => rfl,
    fn_BadJob_XinitX := fn_BadJob_XinitX,
    fi_BadJob_XinitX := fi_BadJob_XinitX,
    k_BadJob_XinitX := k_BadJob_XinitX,
    f_BadPlan_XinitX := fun_mk (st := s_BadPlan_XinitX) l_BadPlan_XinitX c_BadPlan_XinitX k_BadPlan_XinitX,
    b_BadPlan_XinitX := (fun_mk (st := s_BadPlan_XinitX) l_BadPlan_XinitX c_BadPlan_XinitX k_BadPlan_XinitX).binds (ps := ["self"]) fun _ _ _ _ _ _ us hl => match us, hl with | [_], _ => rfl,
    fn_BadPlan_XinitX := fn_BadPlan_XinitX,
    fi_BadPlan_XinitX := fi_BadPlan_XinitX,
    k_BadPlan_XinitX := k_BadPlan_XinitX,
    f_NoTurn_XinitX := fun_mk (st := s_NoTurn_XinitX) l_NoTurn_XinitX c_NoTurn_XinitX k_NoTurn_XinitX,
    b_NoTurn_XinitX := (fun_mk (st := s_NoTurn_XinitX) l_NoTurn_XinitX c_NoTurn_XinitX k_NoTurn_XinitX).binds (ps := ["self", "count"]) fun _ _ _ _ _ _ us hl => match us, hl with | [_, _], _ => rfl,
    fn_NoTurn_XinitX := fn_NoTurn_XinitX,
    fi_NoTurn_XinitX := fi_NoTurn_XinitX,
    k_NoTurn_XinitX := k_NoTurn_XinitX,
    f_NotClosed_XinitX := fun_mk (st := s_NotClosed_XinitX) l_NotClosed_XinitX c_NotClosed_XinitX k_NotClosed_XinitX,
    b_NotClosed_XinitX := (fun_mk (st := s_NotClosed_XinitX) l_NotClosed_XinitX c_NotClosed_XinitX k_NotClosed_XinitX).binds (ps := ["self", "index"]) fun _ _ _ _ _ _ us hl => match us, hl with | [_, _], _ => rfl,
    fn_NotClosed_XinitX := fn_NotClosed_XinitX,
    fi_NotClosed_XinitX := fi_NotClosed_XinitX,
    k_NotClosed_XinitX := k_NotClosed_XinitX,
    f_BadRelease_XinitX := fun_mk (st := s_BadRelease_XinitX) l_BadRelease_XinitX c_BadRelease_XinitX k_BadRelease_XinitX,
    b_BadRelease_XinitX := (fun_mk (st := s_BadRelease_XinitX) l_BadRelease_XinitX c_BadRelease_XinitX k_BadRelease_XinitX).binds (ps := ["self", "name", "number"]) fun _ _ _ _ _ _ us hl => match us, hl with | [_, _, _], _ => rfl,
    fn_BadRelease_XinitX := fn_BadRelease_XinitX,
    fi_BadRelease_XinitX := fi_BadRelease_XinitX,
    k_BadRelease_XinitX := k_BadRelease_XinitX,
    f_NoRelease_XinitX := fun_mk (st := s_NoRelease_XinitX) l_NoRelease_XinitX c_NoRelease_XinitX k_NoRelease_XinitX,
    b_NoRelease_XinitX := (fun_mk (st := s_NoRelease_XinitX) l_NoRelease_XinitX c_NoRelease_XinitX k_NoRelease_XinitX).binds (ps := ["self", "name", "number"]) fun _ _ _ _ _ _ us hl => match us, hl with | [_, _, _], _ => rfl,
    fn_NoRelease_XinitX := fn_NoRelease_XinitX,
    fi_NoRelease_XinitX := fi_NoRelease_XinitX,
    k_NoRelease_XinitX := k_NoRelease_XinitX,
    f_NoChoice_XinitX := fun_mk (st := s_NoChoice_XinitX) l_NoChoice_XinitX c_NoChoice_XinitX k_NoChoice_XinitX,
    b_NoChoice_XinitX := (fun_mk (st := s_NoChoice_XinitX) l_NoChoice_XinitX c_NoChoice_XinitX k_NoChoice_XinitX).binds (ps := ["self"]) fun _ _ _ _ _ _ us hl => match us, hl with | [_], _ => rfl,
    fn_NoChoice_XinitX := fn_NoChoice_XinitX,
    fi_NoChoice_XinitX := fi_NoChoice_XinitX,
    k_NoChoice_XinitX := k_NoChoice_XinitX,
    f_BadSystem_XinitX := fun_mk (st := s_BadSystem_XinitX) l_BadSystem_XinitX c_BadSystem_XinitX k_BadSystem_XinitX,
    b_BadSystem_XinitX := (fun_mk (st := s_BadSystem_XinitX) l_BadSystem_XinitX c_BadSystem_XinitX k_BadSystem_XinitX).binds (ps := ["self", "name"]) fun _ _ _ _ _ _ us hl => match us, hl with | [_, _], _ => rfl,
    fn_BadSystem_XinitX := fn_BadSystem_XinitX,
    fi_BadSystem_XinitX := fi_BadSystem_XinitX,
    k_BadSystem_XinitX := k_BadSystem_XinitX,
    f_Occupied_XinitX := fun_mk (st := s_Occupied_XinitX) l_Occupied_XinitX c_Occupied_XinitX k_Occupied_XinitX,
    b_Occupied_XinitX := (fun_mk (st := s_Occupied_XinitX) l_Occupied_XinitX c_Occupied_XinitX k_Occupied_XinitX).binds (ps := ["self", "path"]) fun _ _ _ _ _ _ us hl => match us, hl with | [_, _], _ => rfl,
    fn_Occupied_XinitX := fn_Occupied_XinitX,
    fi_Occupied_XinitX := fi_Occupied_XinitX,
    k_Occupied_XinitX := k_Occupied_XinitX,
    f_NotWaiting_XinitX := fun_mk (st := s_NotWaiting_XinitX) l_NotWaiting_XinitX c_NotWaiting_XinitX k_NotWaiting_XinitX,
    b_NotWaiting_XinitX := (fun_mk (st := s_NotWaiting_XinitX) l_NotWaiting_XinitX c_NotWaiting_XinitX k_NotWaiting_XinitX).binds (ps := ["self", "path"]) fun _ _ _ _ _ _ us hl => match us, hl with | [_, _], _ => rfl,
    fn_NotWaiting_XinitX := fn_NotWaiting_XinitX,
    fi_NotWaiting_XinitX := fi_NotWaiting_XinitX,
    k_NotWaiting_XinitX := k_NotWaiting_XinitX,
    f_BadRecord_XinitX := fun_mk (st := s_BadRecord_XinitX) l_BadRecord_XinitX c_BadRecord_XinitX k_BadRecord_XinitX,
    b_BadRecord_XinitX := (fun_mk (st := s_BadRecord_XinitX) l_BadRecord_XinitX c_BadRecord_XinitX k_BadRecord_XinitX).binds (ps := ["self", "name"]) fun _ _ _ _ _ _ us hl => match us, hl with | [_, _], _ => rfl,
    fn_BadRecord_XinitX := fn_BadRecord_XinitX,
    fi_BadRecord_XinitX := fi_BadRecord_XinitX,
    k_BadRecord_XinitX := k_BadRecord_XinitX,
    f_Down_XinitX := fun_mk (st := s_Down_XinitX) l_Down_XinitX c_Down_XinitX k_Down_XinitX,
    b_Down_XinitX := (fun_mk (st := s_Down_XinitX) l_Down_XinitX c_Down_XinitX k_Down_XinitX).binds (ps := ["self"]) fun _ _ _ _ _ _ us hl => match us, hl with | [_], _ => rfl,
    fn_Down_XinitX := fn_Down_XinitX,
    fi_Down_XinitX := fi_Down_XinitX,
    k_Down_XinitX := k_Down_XinitX,
    f_Unrecorded_XinitX := fun_mk (st := s_Unrecorded_XinitX) l_Unrecorded_XinitX c_Unrecorded_XinitX k_Unrecorded_XinitX,
    b_Unrecorded_XinitX := (fun_mk (st := s_Unrecorded_XinitX) l_Unrecorded_XinitX c_Unrecorded_XinitX k_Unrecorded_XinitX).binds (ps := ["self"]) fun _ _ _ _ _ _ us hl => match us, hl with | [_], _ => rfl,
    fn_Unrecorded_XinitX := fn_Unrecorded_XinitX,
    fi_Unrecorded_XinitX := fi_Unrecorded_XinitX,
    k_Unrecorded_XinitX := k_Unrecorded_XinitX,
    f_Unchanged_XinitX := fun_mk (st := s_Unchanged_XinitX) l_Unchanged_XinitX c_Unchanged_XinitX k_Unchanged_XinitX,
    b_Unchanged_XinitX := (fun_mk (st := s_Unchanged_XinitX) l_Unchanged_XinitX c_Unchanged_XinitX k_Unchanged_XinitX).binds (ps := ["self"]) fun _ _ _ _ _ _ us hl => match us, hl with | [_], _ => rfl,
    fn_Unchanged_XinitX := fn_Unchanged_XinitX,
    fi_Unchanged_XinitX := fi_Unchanged_XinitX,
    k_Unchanged_XinitX := k_Unchanged_XinitX,
    f_TooFew_XinitX := fun_mk (st := s_TooFew_XinitX) l_TooFew_XinitX c_TooFew_XinitX k_TooFew_XinitX,
    b_TooFew_XinitX := (fun_mk (st := s_TooFew_XinitX) l_TooFew_XinitX c_TooFew_XinitX k_TooFew_XinitX).binds (ps := ["self", "count"]) fun _ _ _ _ _ _ us hl => match us, hl with | [_, _], _ => rfl,
    fn_TooFew_XinitX := fn_TooFew_XinitX,
    fi_TooFew_XinitX := fi_TooFew_XinitX,
    k_TooFew_XinitX := k_TooFew_XinitX,
    f_UnknownField_XinitX := fun_mk (st := s_UnknownField_XinitX) l_UnknownField_XinitX c_UnknownField_XinitX k_UnknownField_XinitX,
    b_UnknownField_XinitX := (fun_mk (st := s_UnknownField_XinitX) l_UnknownField_XinitX c_UnknownField_XinitX k_UnknownField_XinitX).binds (ps := ["self", "name"]) fun _ _ _ _ _ _ us hl => match us, hl with | [_, _], _ => rfl,
    fn_UnknownField_XinitX := fn_UnknownField_XinitX,
    fi_UnknownField_XinitX := fi_UnknownField_XinitX,
    k_UnknownField_XinitX := k_UnknownField_XinitX,
    f_law_source := fun_mk (st := s_law_source) l_law_source c_law_source k_law_source,
    b_law_source := (fun_mk (st := s_law_source) l_law_source c_law_source k_law_source).binds (ps := ["_law_script", "_law_cell_number"]) fun _ _ _ _ _ _ us hl => match us, hl with | [_, _], _ => rfl,
    m_law_source := PySem.W.mg_of X G a_law_source,
    k_law_source := k_law_source,
    f_law_draw := fun_mk (st := s_law_draw) l_law_draw c_law_draw k_law_draw,
    b_law_draw := (fun_mk (st := s_law_draw) l_law_draw c_law_draw k_law_draw).binds (ps := ["_law_source_here", "_law_bound"]) fun _ _ _ _ _ _ us hl => match us, hl with | [_, _], _ => rfl,
    m_law_draw := PySem.W.mg_of X G a_law_draw,
    k_law_draw := k_law_draw,
    f_law_flags := fun_mk (st := s_law_flags) l_law_flags c_law_flags k_law_flags,
    b_law_flags := (fun_mk (st := s_law_flags) l_law_flags c_law_flags k_law_flags).binds (ps := ["_law_e"]) fun _ _ _ _ _ _ us hl => match us, hl with | [_], _ => rfl,
    m_law_flags := PySem.W.mg_of X G a_law_flags,
    k_law_flags := k_law_flags,
    f_law_kept := fun_mk (st := s_law_kept) l_law_kept c_law_kept k_law_kept,
    b_law_kept := (fun_mk (st := s_law_kept) l_law_kept c_law_kept k_law_kept).binds (ps := ["_law_errors", "_law_some", "_law_other", "_law_text", "_law_more", "_law_loop"]) fun _ _ _ _ _ _ us hl => match us, hl with | [_, _, _, _, _, _], _ => rfl,
    m_law_kept := PySem.W.mg_of X G a_law_kept,
    k_law_kept := k_law_kept,
    f_law_named := fun_mk (st := s_law_named) l_law_named c_law_named k_law_named,
    b_law_named := (fun_mk (st := s_law_named) l_law_named c_law_named k_law_named).binds (ps := ["_law_some", "_law_other", "_law_text", "_law_more", "_law_loop"]) fun _ _ _ _ _ _ us hl => match us, hl with | [_, _, _, _, _], _ => rfl,
    m_law_named := PySem.W.mg_of X G a_law_named,
    k_law_named := k_law_named,
    f_law_later_kept := fun_mk (st := s_law_later_kept) l_law_later_kept c_law_later_kept k_law_later_kept,
    b_law_later_kept := (fun_mk (st := s_law_later_kept) l_law_later_kept c_law_later_kept k_law_later_kept).binds (ps := ["_law_errors", "_law_some", "_law_other", "_law_text", "_law_more"]) fun _ _ _ _ _ _ us hl => match us, hl with | [_, _, _, _, _], _ => rfl,
    m_law_later_kept := PySem.W.mg_of X G a_law_later_kept,
    k_law_later_kept := k_law_later_kept,
    f_law_later_named := fun_mk (st := s_law_later_named) l_law_later_named c_law_later_named k_law_later_named,
    b_law_later_named := (fun_mk (st := s_law_later_named) l_law_later_named c_law_later_named k_law_later_named).binds (ps := ["_law_some", "_law_other", "_law_text", "_law_more"]) fun _ _ _ _ _ _ us hl => match us, hl with | [_, _, _, _], _ => rfl,
    m_law_later_named := PySem.W.mg_of X G a_law_later_named,
    k_law_later_named := k_law_later_named,
    f_law := fun_mk (st := s_law) l_law c_law k_law,
    b_law := (fun_mk (st := s_law) l_law c_law k_law).binds (ps := ["_law_script"]) fun _ _ _ _ _ _ us hl => match us, hl with | [_], _ => rfl,
    m_law := PySem.W.mg_of X G a_law,
    k_law := k_law,
    kt := kt,
    nd := nd }

theorem walk {l : PySem.W.OpenLaw} {q : Program} {loose : List Str} {XP : (Str → Option Value) → Heap → Prop} {YP : World → Heap → Prop} {d : DefRec} {K : Params → PySem.W.Frag} (hn : l.most = some 63) (hdf : d.params.defaults = [])
    (hY : ∀ (w : World) (h : Heap), YP w h → (K w.params).In h)
    (F : ∀ (w : World) (mg : Str → Option Value) (fa : Addr) (h : Heap), (K w.params).In h → h.Ns mainGlobals mg → mg d.name = some (.ref fa) → ∃ ad : Ad, Txt l.prog (K w.params) mg ad ∧ ad.a_law = fa) :
    PySem.W.WalkO q loose XP YP l.row.toRowW d [] (fun f vs => PySem.call f vs) := by
  refine L2.walk_of (n := 63) (k := 5) (x := "_law_script") (CX := fun _ => CX0) (sp := fun w => spLaw (K w.params)) hn (by decide) hdf ⟨rfl, by decide, by decide⟩ hY ?_ (fun _ _ a ns hl _ hS => ⟨a, ns, rfl, hS, hl, fun _ => rfl⟩) fun _ _ _ _ _ z => z
  intro w mg fa h hK hG hm
  obtain ⟨ad, T, rfl⟩ := F w mg fa h hK hG hm
  refine ⟨ad.d_law, fun s v => ?_, fun base _ _ => ok_law T⟩
  obtain ⟨oc, od, kV, doc, pm, an, cdv, ct, osl, e, _⟩ := T.f_law.ex
  rw [e]
  exact .of_eq rfl

end Toy
open PySem PySem.W PyProof.Rows in
set_option maxRecDepth 100000 in
set_option maxHeartbeats 0 in
theorem PySem.Challenge.cw_sourcequeue_k01_errors_holds : PySem.Challenge.rw_sourcequeue_k01_errors.Holds := by
  w_on; o_law; k_headL; (case hw => w_witness2)
  k_fill
  refine Toy.walk (l := PySem.Challenge.rw_sourcequeue_k01_errors) rfl rfl (fun w h Y => PySem.W.kIn_of Y) ?F
  case F =>
    intro w mg fa h KX G hmg
    refine' Toy.all_mk KX G hmg ?zValueError ?zint ?zisinstance ?zlen ?zmax ?zmin ?zrange ?ztuple ?hnx ?tkx ?mgx_SourceError ?rd_SourceError ?rg_SourceError ?ri_SourceError ?mgx_BadName ?ox_BadName ?na_BadName_name ?mgx_BadPath ?ox_BadPath ?na_BadPath_path ?mgx_NoFile ?ox_NoFile ?na_NoFile_path ?mgx_BadHunk ?ox_BadHunk ?na_BadHunk_index ?mgx_BadPatch ?ox_BadPatch ?na_BadPatch_path ?mgx_Refused ?ox_Refused ?na_Refused_path ?na_Refused_index ?mgx_Entangled ?ox_Entangled ?na_Entangled_path ?mgx_BadSeries ?ox_BadSeries ?na_BadSeries_index ?mgx_Stopped ?ox_Stopped ?na_Stopped_index ?mgx_BadRecipe ?ox_BadRecipe ?na_BadRecipe_index ?mgx_Outside ?ox_Outside ?na_Outside_output ?na_Outside_read ?mgx_Absent ?ox_Absent ?na_Absent_output ?na_Absent_read ?mgx_BadArchive ?ox_BadArchive ?na_BadArchive_name ?mgx_NoPlan ?ox_NoPlan ?na_NoPlan_ring ?mgx_NoOrder ?ox_NoOrder ?mgx_NoPatch ?ox_NoPatch ?na_NoPatch_name ?mgx_Clashed ?ox_Clashed ?na_Clashed_ours ?na_Clashed_theirs ?mgx_BadChoice ?ox_BadChoice ?na_BadChoice_name ?mgx_BadJob ?ox_BadJob ?na_BadJob_index ?mgx_BadPlan ?ox_BadPlan ?mgx_NoTurn ?ox_NoTurn ?na_NoTurn_count ?mgx_NotClosed ?ox_NotClosed ?na_NotClosed_index ?mgx_BadRelease ?ox_BadRelease ?na_BadRelease_name ?na_BadRelease_number ?mgx_NoRelease ?ox_NoRelease ?na_NoRelease_name ?na_NoRelease_number ?mgx_NoChoice ?ox_NoChoice ?mgx_BadSystem ?ox_BadSystem ?na_BadSystem_name ?mgx_Occupied ?ox_Occupied ?na_Occupied_path ?mgx_NotWaiting ?ox_NotWaiting ?na_NotWaiting_path ?mgx_BadRecord ?ox_BadRecord ?na_BadRecord_name ?mgx_Down ?ox_Down ?mgx_Unrecorded ?ox_Unrecorded ?mgx_Unchanged ?ox_Unchanged ?mgx_TooFew ?ox_TooFew ?na_TooFew_count ?mgx_UnknownField ?ox_UnknownField ?na_UnknownField_name ?a_BadName_XinitX ?l_BadName_XinitX ?c_BadName_XinitX ?k_BadName_XinitX ?fn_BadName_XinitX ?fi_BadName_XinitX ?a_BadPath_XinitX ?l_BadPath_XinitX ?c_BadPath_XinitX ?k_BadPath_XinitX ?fn_BadPath_XinitX ?fi_BadPath_XinitX ?a_NoFile_XinitX ?l_NoFile_XinitX ?c_NoFile_XinitX ?k_NoFile_XinitX ?fn_NoFile_XinitX ?fi_NoFile_XinitX ?a_BadHunk_XinitX ?l_BadHunk_XinitX ?c_BadHunk_XinitX ?k_BadHunk_XinitX ?fn_BadHunk_XinitX ?fi_BadHunk_XinitX ?a_BadPatch_XinitX ?l_BadPatch_XinitX ?c_BadPatch_XinitX ?k_BadPatch_XinitX ?fn_BadPatch_XinitX ?fi_BadPatch_XinitX ?a_Refused_XinitX ?l_Refused_XinitX ?c_Refused_XinitX ?k_Refused_XinitX ?fn_Refused_XinitX ?fi_Refused_XinitX ?a_Entangled_XinitX ?l_Entangled_XinitX ?c_Entangled_XinitX ?k_Entangled_XinitX ?fn_Entangled_XinitX ?fi_Entangled_XinitX ?a_BadSeries_XinitX ?l_BadSeries_XinitX ?c_BadSeries_XinitX ?k_BadSeries_XinitX ?fn_BadSeries_XinitX ?fi_BadSeries_XinitX ?a_Stopped_XinitX ?l_Stopped_XinitX ?c_Stopped_XinitX ?k_Stopped_XinitX ?fn_Stopped_XinitX ?fi_Stopped_XinitX ?a_BadRecipe_XinitX ?l_BadRecipe_XinitX ?c_BadRecipe_XinitX ?k_BadRecipe_XinitX ?fn_BadRecipe_XinitX ?fi_BadRecipe_XinitX ?a_Outside_XinitX ?l_Outside_XinitX ?c_Outside_XinitX ?k_Outside_XinitX ?fn_Outside_XinitX ?fi_Outside_XinitX ?a_Absent_XinitX ?l_Absent_XinitX ?c_Absent_XinitX ?k_Absent_XinitX ?fn_Absent_XinitX ?fi_Absent_XinitX ?a_BadArchive_XinitX ?l_BadArchive_XinitX ?c_BadArchive_XinitX ?k_BadArchive_XinitX ?fn_BadArchive_XinitX ?fi_BadArchive_XinitX ?a_NoPlan_XinitX ?l_NoPlan_XinitX ?c_NoPlan_XinitX ?k_NoPlan_XinitX ?fn_NoPlan_XinitX ?fi_NoPlan_XinitX ?a_NoOrder_XinitX ?l_NoOrder_XinitX ?c_NoOrder_XinitX ?k_NoOrder_XinitX ?fn_NoOrder_XinitX ?fi_NoOrder_XinitX ?a_NoPatch_XinitX ?l_NoPatch_XinitX ?c_NoPatch_XinitX ?k_NoPatch_XinitX ?fn_NoPatch_XinitX ?fi_NoPatch_XinitX ?a_Clashed_XinitX ?l_Clashed_XinitX ?c_Clashed_XinitX ?k_Clashed_XinitX ?fn_Clashed_XinitX ?fi_Clashed_XinitX ?a_BadChoice_XinitX ?l_BadChoice_XinitX ?c_BadChoice_XinitX ?k_BadChoice_XinitX ?fn_BadChoice_XinitX ?fi_BadChoice_XinitX ?a_BadJob_XinitX ?l_BadJob_XinitX ?c_BadJob_XinitX ?k_BadJob_XinitX ?fn_BadJob_XinitX ?fi_BadJob_XinitX ?a_BadPlan_XinitX ?l_BadPlan_XinitX ?c_BadPlan_XinitX ?k_BadPlan_XinitX ?fn_BadPlan_XinitX ?fi_BadPlan_XinitX ?a_NoTurn_XinitX ?l_NoTurn_XinitX ?c_NoTurn_XinitX ?k_NoTurn_XinitX ?fn_NoTurn_XinitX ?fi_NoTurn_XinitX ?a_NotClosed_XinitX ?l_NotClosed_XinitX ?c_NotClosed_XinitX ?k_NotClosed_XinitX ?fn_NotClosed_XinitX ?fi_NotClosed_XinitX ?a_BadRelease_XinitX ?l_BadRelease_XinitX ?c_BadRelease_XinitX ?k_BadRelease_XinitX ?fn_BadRelease_XinitX ?fi_BadRelease_XinitX ?a_NoRelease_XinitX ?l_NoRelease_XinitX ?c_NoRelease_XinitX ?k_NoRelease_XinitX ?fn_NoRelease_XinitX ?fi_NoRelease_XinitX ?a_NoChoice_XinitX ?l_NoChoice_XinitX ?c_NoChoice_XinitX ?k_NoChoice_XinitX ?fn_NoChoice_XinitX ?fi_NoChoice_XinitX ?a_BadSystem_XinitX ?l_BadSystem_XinitX ?c_BadSystem_XinitX ?k_BadSystem_XinitX ?fn_BadSystem_XinitX ?fi_BadSystem_XinitX ?a_Occupied_XinitX ?l_Occupied_XinitX ?c_Occupied_XinitX ?k_Occupied_XinitX ?fn_Occupied_XinitX ?fi_Occupied_XinitX ?a_NotWaiting_XinitX ?l_NotWaiting_XinitX ?c_NotWaiting_XinitX ?k_NotWaiting_XinitX ?fn_NotWaiting_XinitX ?fi_NotWaiting_XinitX ?a_BadRecord_XinitX ?l_BadRecord_XinitX ?c_BadRecord_XinitX ?k_BadRecord_XinitX ?fn_BadRecord_XinitX ?fi_BadRecord_XinitX ?a_Down_XinitX ?l_Down_XinitX ?c_Down_XinitX ?k_Down_XinitX ?fn_Down_XinitX ?fi_Down_XinitX ?a_Unrecorded_XinitX ?l_Unrecorded_XinitX ?c_Unrecorded_XinitX ?k_Unrecorded_XinitX ?fn_Unrecorded_XinitX ?fi_Unrecorded_XinitX ?a_Unchanged_XinitX ?l_Unchanged_XinitX ?c_Unchanged_XinitX ?k_Unchanged_XinitX ?fn_Unchanged_XinitX ?fi_Unchanged_XinitX ?a_TooFew_XinitX ?l_TooFew_XinitX ?c_TooFew_XinitX ?k_TooFew_XinitX ?fn_TooFew_XinitX ?fi_TooFew_XinitX ?a_UnknownField_XinitX ?l_UnknownField_XinitX ?c_UnknownField_XinitX ?k_UnknownField_XinitX ?fn_UnknownField_XinitX ?fi_UnknownField_XinitX ?a_law_source ?l_law_source ?c_law_source ?k_law_source ?a_law_draw ?l_law_draw ?c_law_draw ?k_law_draw ?a_law_flags ?l_law_flags ?c_law_flags ?k_law_flags ?a_law_kept ?l_law_kept ?c_law_kept ?k_law_kept ?a_law_named ?l_law_named ?c_law_named ?k_law_named ?a_law_later_kept ?l_law_later_kept ?c_law_later_kept ?k_law_later_kept ?a_law_later_named ?l_law_later_named ?c_law_later_named ?k_law_later_named ?a_law ?l_law ?c_law ?k_law ?kt ?nd
    (case zValueError => k_is)
    (case zint => k_is)
    (case zisinstance => k_is)
    (case zlen => k_is)
    (case zmax => k_is)
    (case zmin => k_is)
    (case zrange => k_is)
    (case ztuple => k_is)
    (case hnx => k_is)
    (case tkx => k_is)
    (case mgx_SourceError => k_is)
    (case rd_SourceError => k_is)
    (case rg_SourceError => k_is)
    (case ri_SourceError => k_is)
    (case mgx_BadName => k_is)
    (case ox_BadName => exact ⟨⟨⟨_, _, _, _, _, _, _, _, _, _, _, _, _, _, _, by k_is, by rfl⟩, by k_is, by k_is, by k_is, by k_is⟩, by k_is, by k_is, by k_is, by k_is, by k_is⟩)
    (case na_BadName_name => k_is)
    (case mgx_BadPath => k_is)
    (case ox_BadPath => exact ⟨⟨⟨_, _, _, _, _, _, _, _, _, _, _, _, _, _, _, by k_is, by rfl⟩, by k_is, by k_is, by k_is, by k_is⟩, by k_is, by k_is, by k_is, by k_is, by k_is⟩)
    (case na_BadPath_path => k_is)
    (case mgx_NoFile => k_is)
    (case ox_NoFile => exact ⟨⟨⟨_, _, _, _, _, _, _, _, _, _, _, _, _, _, _, by k_is, by rfl⟩, by k_is, by k_is, by k_is, by k_is⟩, by k_is, by k_is, by k_is, by k_is, by k_is⟩)
    (case na_NoFile_path => k_is)
    (case mgx_BadHunk => k_is)
    (case ox_BadHunk => exact ⟨⟨⟨_, _, _, _, _, _, _, _, _, _, _, _, _, _, _, by k_is, by rfl⟩, by k_is, by k_is, by k_is, by k_is⟩, by k_is, by k_is, by k_is, by k_is, by k_is⟩)
    (case na_BadHunk_index => k_is)
    (case mgx_BadPatch => k_is)
    (case ox_BadPatch => exact ⟨⟨⟨_, _, _, _, _, _, _, _, _, _, _, _, _, _, _, by k_is, by rfl⟩, by k_is, by k_is, by k_is, by k_is⟩, by k_is, by k_is, by k_is, by k_is, by k_is⟩)
    (case na_BadPatch_path => k_is)
    (case mgx_Refused => k_is)
    (case ox_Refused => exact ⟨⟨⟨_, _, _, _, _, _, _, _, _, _, _, _, _, _, _, by k_is, by rfl⟩, by k_is, by k_is, by k_is, by k_is⟩, by k_is, by k_is, by k_is, by k_is, by k_is⟩)
    (case na_Refused_path => k_is)
    (case na_Refused_index => k_is)
    (case mgx_Entangled => k_is)
    (case ox_Entangled => exact ⟨⟨⟨_, _, _, _, _, _, _, _, _, _, _, _, _, _, _, by k_is, by rfl⟩, by k_is, by k_is, by k_is, by k_is⟩, by k_is, by k_is, by k_is, by k_is, by k_is⟩)
    (case na_Entangled_path => k_is)
    (case mgx_BadSeries => k_is)
    (case ox_BadSeries => exact ⟨⟨⟨_, _, _, _, _, _, _, _, _, _, _, _, _, _, _, by k_is, by rfl⟩, by k_is, by k_is, by k_is, by k_is⟩, by k_is, by k_is, by k_is, by k_is, by k_is⟩)
    (case na_BadSeries_index => k_is)
    (case mgx_Stopped => k_is)
    (case ox_Stopped => exact ⟨⟨⟨_, _, _, _, _, _, _, _, _, _, _, _, _, _, _, by k_is, by rfl⟩, by k_is, by k_is, by k_is, by k_is⟩, by k_is, by k_is, by k_is, by k_is, by k_is⟩)
    (case na_Stopped_index => k_is)
    (case mgx_BadRecipe => k_is)
    (case ox_BadRecipe => exact ⟨⟨⟨_, _, _, _, _, _, _, _, _, _, _, _, _, _, _, by k_is, by rfl⟩, by k_is, by k_is, by k_is, by k_is⟩, by k_is, by k_is, by k_is, by k_is, by k_is⟩)
    (case na_BadRecipe_index => k_is)
    (case mgx_Outside => k_is)
    (case ox_Outside => exact ⟨⟨⟨_, _, _, _, _, _, _, _, _, _, _, _, _, _, _, by k_is, by rfl⟩, by k_is, by k_is, by k_is, by k_is⟩, by k_is, by k_is, by k_is, by k_is, by k_is⟩)
    (case na_Outside_output => k_is)
    (case na_Outside_read => k_is)
    (case mgx_Absent => k_is)
    (case ox_Absent => exact ⟨⟨⟨_, _, _, _, _, _, _, _, _, _, _, _, _, _, _, by k_is, by rfl⟩, by k_is, by k_is, by k_is, by k_is⟩, by k_is, by k_is, by k_is, by k_is, by k_is⟩)
    (case na_Absent_output => k_is)
    (case na_Absent_read => k_is)
    (case mgx_BadArchive => k_is)
    (case ox_BadArchive => exact ⟨⟨⟨_, _, _, _, _, _, _, _, _, _, _, _, _, _, _, by k_is, by rfl⟩, by k_is, by k_is, by k_is, by k_is⟩, by k_is, by k_is, by k_is, by k_is, by k_is⟩)
    (case na_BadArchive_name => k_is)
    (case mgx_NoPlan => k_is)
    (case ox_NoPlan => exact ⟨⟨⟨_, _, _, _, _, _, _, _, _, _, _, _, _, _, _, by k_is, by rfl⟩, by k_is, by k_is, by k_is, by k_is⟩, by k_is, by k_is, by k_is, by k_is, by k_is⟩)
    (case na_NoPlan_ring => k_is)
    (case mgx_NoOrder => k_is)
    (case ox_NoOrder => exact ⟨⟨⟨_, _, _, _, _, _, _, _, _, _, _, _, _, _, _, by k_is, by rfl⟩, by k_is, by k_is, by k_is, by k_is⟩, by k_is, by k_is, by k_is, by k_is, by k_is⟩)
    (case mgx_NoPatch => k_is)
    (case ox_NoPatch => exact ⟨⟨⟨_, _, _, _, _, _, _, _, _, _, _, _, _, _, _, by k_is, by rfl⟩, by k_is, by k_is, by k_is, by k_is⟩, by k_is, by k_is, by k_is, by k_is, by k_is⟩)
    (case na_NoPatch_name => k_is)
    (case mgx_Clashed => k_is)
    (case ox_Clashed => exact ⟨⟨⟨_, _, _, _, _, _, _, _, _, _, _, _, _, _, _, by k_is, by rfl⟩, by k_is, by k_is, by k_is, by k_is⟩, by k_is, by k_is, by k_is, by k_is, by k_is⟩)
    (case na_Clashed_ours => k_is)
    (case na_Clashed_theirs => k_is)
    (case mgx_BadChoice => k_is)
    (case ox_BadChoice => exact ⟨⟨⟨_, _, _, _, _, _, _, _, _, _, _, _, _, _, _, by k_is, by rfl⟩, by k_is, by k_is, by k_is, by k_is⟩, by k_is, by k_is, by k_is, by k_is, by k_is⟩)
    (case na_BadChoice_name => k_is)
    (case mgx_BadJob => k_is)
    (case ox_BadJob => exact ⟨⟨⟨_, _, _, _, _, _, _, _, _, _, _, _, _, _, _, by k_is, by rfl⟩, by k_is, by k_is, by k_is, by k_is⟩, by k_is, by k_is, by k_is, by k_is, by k_is⟩)
    (case na_BadJob_index => k_is)
    (case mgx_BadPlan => k_is)
    (case ox_BadPlan => exact ⟨⟨⟨_, _, _, _, _, _, _, _, _, _, _, _, _, _, _, by k_is, by rfl⟩, by k_is, by k_is, by k_is, by k_is⟩, by k_is, by k_is, by k_is, by k_is, by k_is⟩)
    (case mgx_NoTurn => k_is)
    (case ox_NoTurn => exact ⟨⟨⟨_, _, _, _, _, _, _, _, _, _, _, _, _, _, _, by k_is, by rfl⟩, by k_is, by k_is, by k_is, by k_is⟩, by k_is, by k_is, by k_is, by k_is, by k_is⟩)
    (case na_NoTurn_count => k_is)
    (case mgx_NotClosed => k_is)
    (case ox_NotClosed => exact ⟨⟨⟨_, _, _, _, _, _, _, _, _, _, _, _, _, _, _, by k_is, by rfl⟩, by k_is, by k_is, by k_is, by k_is⟩, by k_is, by k_is, by k_is, by k_is, by k_is⟩)
    (case na_NotClosed_index => k_is)
    (case mgx_BadRelease => k_is)
    (case ox_BadRelease => exact ⟨⟨⟨_, _, _, _, _, _, _, _, _, _, _, _, _, _, _, by k_is, by rfl⟩, by k_is, by k_is, by k_is, by k_is⟩, by k_is, by k_is, by k_is, by k_is, by k_is⟩)
    (case na_BadRelease_name => k_is)
    (case na_BadRelease_number => k_is)
    (case mgx_NoRelease => k_is)
    (case ox_NoRelease => exact ⟨⟨⟨_, _, _, _, _, _, _, _, _, _, _, _, _, _, _, by k_is, by rfl⟩, by k_is, by k_is, by k_is, by k_is⟩, by k_is, by k_is, by k_is, by k_is, by k_is⟩)
    (case na_NoRelease_name => k_is)
    (case na_NoRelease_number => k_is)
    (case mgx_NoChoice => k_is)
    (case ox_NoChoice => exact ⟨⟨⟨_, _, _, _, _, _, _, _, _, _, _, _, _, _, _, by k_is, by rfl⟩, by k_is, by k_is, by k_is, by k_is⟩, by k_is, by k_is, by k_is, by k_is, by k_is⟩)
    (case mgx_BadSystem => k_is)
    (case ox_BadSystem => exact ⟨⟨⟨_, _, _, _, _, _, _, _, _, _, _, _, _, _, _, by k_is, by rfl⟩, by k_is, by k_is, by k_is, by k_is⟩, by k_is, by k_is, by k_is, by k_is, by k_is⟩)
    (case na_BadSystem_name => k_is)
    (case mgx_Occupied => k_is)
    (case ox_Occupied => exact ⟨⟨⟨_, _, _, _, _, _, _, _, _, _, _, _, _, _, _, by k_is, by rfl⟩, by k_is, by k_is, by k_is, by k_is⟩, by k_is, by k_is, by k_is, by k_is, by k_is⟩)
    (case na_Occupied_path => k_is)
    (case mgx_NotWaiting => k_is)
    (case ox_NotWaiting => exact ⟨⟨⟨_, _, _, _, _, _, _, _, _, _, _, _, _, _, _, by k_is, by rfl⟩, by k_is, by k_is, by k_is, by k_is⟩, by k_is, by k_is, by k_is, by k_is, by k_is⟩)
    (case na_NotWaiting_path => k_is)
    (case mgx_BadRecord => k_is)
    (case ox_BadRecord => exact ⟨⟨⟨_, _, _, _, _, _, _, _, _, _, _, _, _, _, _, by k_is, by rfl⟩, by k_is, by k_is, by k_is, by k_is⟩, by k_is, by k_is, by k_is, by k_is, by k_is⟩)
    (case na_BadRecord_name => k_is)
    (case mgx_Down => k_is)
    (case ox_Down => exact ⟨⟨⟨_, _, _, _, _, _, _, _, _, _, _, _, _, _, _, by k_is, by rfl⟩, by k_is, by k_is, by k_is, by k_is⟩, by k_is, by k_is, by k_is, by k_is, by k_is⟩)
    (case mgx_Unrecorded => k_is)
    (case ox_Unrecorded => exact ⟨⟨⟨_, _, _, _, _, _, _, _, _, _, _, _, _, _, _, by k_is, by rfl⟩, by k_is, by k_is, by k_is, by k_is⟩, by k_is, by k_is, by k_is, by k_is, by k_is⟩)
    (case mgx_Unchanged => k_is)
    (case ox_Unchanged => exact ⟨⟨⟨_, _, _, _, _, _, _, _, _, _, _, _, _, _, _, by k_is, by rfl⟩, by k_is, by k_is, by k_is, by k_is⟩, by k_is, by k_is, by k_is, by k_is, by k_is⟩)
    (case mgx_TooFew => k_is)
    (case ox_TooFew => exact ⟨⟨⟨_, _, _, _, _, _, _, _, _, _, _, _, _, _, _, by k_is, by rfl⟩, by k_is, by k_is, by k_is, by k_is⟩, by k_is, by k_is, by k_is, by k_is, by k_is⟩)
    (case na_TooFew_count => k_is)
    (case mgx_UnknownField => k_is)
    (case ox_UnknownField => exact ⟨⟨⟨_, _, _, _, _, _, _, _, _, _, _, _, _, _, _, by k_is, by rfl⟩, by k_is, by k_is, by k_is, by k_is⟩, by k_is, by k_is, by k_is, by k_is, by k_is⟩)
    (case na_UnknownField_name => k_is)
    (case a_BadName_XinitX => k_is)
    (case l_BadName_XinitX => k_is)
    (case c_BadName_XinitX => k_is)
    (case k_BadName_XinitX => k_is)
    (case fn_BadName_XinitX => k_is)
    (case fi_BadName_XinitX => k_is)
    (case a_BadPath_XinitX => k_is)
    (case l_BadPath_XinitX => k_is)
    (case c_BadPath_XinitX => k_is)
    (case k_BadPath_XinitX => k_is)
    (case fn_BadPath_XinitX => k_is)
    (case fi_BadPath_XinitX => k_is)
    (case a_NoFile_XinitX => k_is)
    (case l_NoFile_XinitX => k_is)
    (case c_NoFile_XinitX => k_is)
    (case k_NoFile_XinitX => k_is)
    (case fn_NoFile_XinitX => k_is)
    (case fi_NoFile_XinitX => k_is)
    (case a_BadHunk_XinitX => k_is)
    (case l_BadHunk_XinitX => k_is)
    (case c_BadHunk_XinitX => k_is)
    (case k_BadHunk_XinitX => k_is)
    (case fn_BadHunk_XinitX => k_is)
    (case fi_BadHunk_XinitX => k_is)
    (case a_BadPatch_XinitX => k_is)
    (case l_BadPatch_XinitX => k_is)
    (case c_BadPatch_XinitX => k_is)
    (case k_BadPatch_XinitX => k_is)
    (case fn_BadPatch_XinitX => k_is)
    (case fi_BadPatch_XinitX => k_is)
    (case a_Refused_XinitX => k_is)
    (case l_Refused_XinitX => k_is)
    (case c_Refused_XinitX => k_is)
    (case k_Refused_XinitX => k_is)
    (case fn_Refused_XinitX => k_is)
    (case fi_Refused_XinitX => k_is)
    (case a_Entangled_XinitX => k_is)
    (case l_Entangled_XinitX => k_is)
    (case c_Entangled_XinitX => k_is)
    (case k_Entangled_XinitX => k_is)
    (case fn_Entangled_XinitX => k_is)
    (case fi_Entangled_XinitX => k_is)
    (case a_BadSeries_XinitX => k_is)
    (case l_BadSeries_XinitX => k_is)
    (case c_BadSeries_XinitX => k_is)
    (case k_BadSeries_XinitX => k_is)
    (case fn_BadSeries_XinitX => k_is)
    (case fi_BadSeries_XinitX => k_is)
    (case a_Stopped_XinitX => k_is)
    (case l_Stopped_XinitX => k_is)
    (case c_Stopped_XinitX => k_is)
    (case k_Stopped_XinitX => k_is)
    (case fn_Stopped_XinitX => k_is)
    (case fi_Stopped_XinitX => k_is)
    (case a_BadRecipe_XinitX => k_is)
    (case l_BadRecipe_XinitX => k_is)
    (case c_BadRecipe_XinitX => k_is)
    (case k_BadRecipe_XinitX => k_is)
    (case fn_BadRecipe_XinitX => k_is)
    (case fi_BadRecipe_XinitX => k_is)
    (case a_Outside_XinitX => k_is)
    (case l_Outside_XinitX => k_is)
    (case c_Outside_XinitX => k_is)
    (case k_Outside_XinitX => k_is)
    (case fn_Outside_XinitX => k_is)
    (case fi_Outside_XinitX => k_is)
    (case a_Absent_XinitX => k_is)
    (case l_Absent_XinitX => k_is)
    (case c_Absent_XinitX => k_is)
    (case k_Absent_XinitX => k_is)
    (case fn_Absent_XinitX => k_is)
    (case fi_Absent_XinitX => k_is)
    (case a_BadArchive_XinitX => k_is)
    (case l_BadArchive_XinitX => k_is)
    (case c_BadArchive_XinitX => k_is)
    (case k_BadArchive_XinitX => k_is)
    (case fn_BadArchive_XinitX => k_is)
    (case fi_BadArchive_XinitX => k_is)
    (case a_NoPlan_XinitX => k_is)
    (case l_NoPlan_XinitX => k_is)
    (case c_NoPlan_XinitX => k_is)
    (case k_NoPlan_XinitX => k_is)
    (case fn_NoPlan_XinitX => k_is)
    (case fi_NoPlan_XinitX => k_is)
    (case a_NoOrder_XinitX => k_is)
    (case l_NoOrder_XinitX => k_is)
    (case c_NoOrder_XinitX => k_is)
    (case k_NoOrder_XinitX => k_is)
    (case fn_NoOrder_XinitX => k_is)
    (case fi_NoOrder_XinitX => k_is)
    (case a_NoPatch_XinitX => k_is)
    (case l_NoPatch_XinitX => k_is)
    (case c_NoPatch_XinitX => k_is)
    (case k_NoPatch_XinitX => k_is)
    (case fn_NoPatch_XinitX => k_is)
    (case fi_NoPatch_XinitX => k_is)
    (case a_Clashed_XinitX => k_is)
    (case l_Clashed_XinitX => k_is)
    (case c_Clashed_XinitX => k_is)
    (case k_Clashed_XinitX => k_is)
    (case fn_Clashed_XinitX => k_is)
    (case fi_Clashed_XinitX => k_is)
    (case a_BadChoice_XinitX => k_is)
    (case l_BadChoice_XinitX => k_is)
    (case c_BadChoice_XinitX => k_is)
    (case k_BadChoice_XinitX => k_is)
    (case fn_BadChoice_XinitX => k_is)
    (case fi_BadChoice_XinitX => k_is)
    (case a_BadJob_XinitX => k_is)
    (case l_BadJob_XinitX => k_is)
    (case c_BadJob_XinitX => k_is)
    (case k_BadJob_XinitX => k_is)
    (case fn_BadJob_XinitX => k_is)
    (case fi_BadJob_XinitX => k_is)
    (case a_BadPlan_XinitX => k_is)
    (case l_BadPlan_XinitX => k_is)
    (case c_BadPlan_XinitX => k_is)
    (case k_BadPlan_XinitX => k_is)
    (case fn_BadPlan_XinitX => k_is)
    (case fi_BadPlan_XinitX => k_is)
    (case a_NoTurn_XinitX => k_is)
    (case l_NoTurn_XinitX => k_is)
    (case c_NoTurn_XinitX => k_is)
    (case k_NoTurn_XinitX => k_is)
    (case fn_NoTurn_XinitX => k_is)
    (case fi_NoTurn_XinitX => k_is)
    (case a_NotClosed_XinitX => k_is)
    (case l_NotClosed_XinitX => k_is)
    (case c_NotClosed_XinitX => k_is)
    (case k_NotClosed_XinitX => k_is)
    (case fn_NotClosed_XinitX => k_is)
    (case fi_NotClosed_XinitX => k_is)
    (case a_BadRelease_XinitX => k_is)
    (case l_BadRelease_XinitX => k_is)
    (case c_BadRelease_XinitX => k_is)
    (case k_BadRelease_XinitX => k_is)
    (case fn_BadRelease_XinitX => k_is)
    (case fi_BadRelease_XinitX => k_is)
    (case a_NoRelease_XinitX => k_is)
    (case l_NoRelease_XinitX => k_is)
    (case c_NoRelease_XinitX => k_is)
    (case k_NoRelease_XinitX => k_is)
    (case fn_NoRelease_XinitX => k_is)
    (case fi_NoRelease_XinitX => k_is)
    (case a_NoChoice_XinitX => k_is)
    (case l_NoChoice_XinitX => k_is)
    (case c_NoChoice_XinitX => k_is)
    (case k_NoChoice_XinitX => k_is)
    (case fn_NoChoice_XinitX => k_is)
    (case fi_NoChoice_XinitX => k_is)
    (case a_BadSystem_XinitX => k_is)
    (case l_BadSystem_XinitX => k_is)
    (case c_BadSystem_XinitX => k_is)
    (case k_BadSystem_XinitX => k_is)
    (case fn_BadSystem_XinitX => k_is)
    (case fi_BadSystem_XinitX => k_is)
    (case a_Occupied_XinitX => k_is)
    (case l_Occupied_XinitX => k_is)
    (case c_Occupied_XinitX => k_is)
    (case k_Occupied_XinitX => k_is)
    (case fn_Occupied_XinitX => k_is)
    (case fi_Occupied_XinitX => k_is)
    (case a_NotWaiting_XinitX => k_is)
    (case l_NotWaiting_XinitX => k_is)
    (case c_NotWaiting_XinitX => k_is)
    (case k_NotWaiting_XinitX => k_is)
    (case fn_NotWaiting_XinitX => k_is)
    (case fi_NotWaiting_XinitX => k_is)
    (case a_BadRecord_XinitX => k_is)
    (case l_BadRecord_XinitX => k_is)
    (case c_BadRecord_XinitX => k_is)
    (case k_BadRecord_XinitX => k_is)
    (case fn_BadRecord_XinitX => k_is)
    (case fi_BadRecord_XinitX => k_is)
    (case a_Down_XinitX => k_is)
    (case l_Down_XinitX => k_is)
    (case c_Down_XinitX => k_is)
    (case k_Down_XinitX => k_is)
    (case fn_Down_XinitX => k_is)
    (case fi_Down_XinitX => k_is)
    (case a_Unrecorded_XinitX => k_is)
    (case l_Unrecorded_XinitX => k_is)
    (case c_Unrecorded_XinitX => k_is)
    (case k_Unrecorded_XinitX => k_is)
    (case fn_Unrecorded_XinitX => k_is)
    (case fi_Unrecorded_XinitX => k_is)
    (case a_Unchanged_XinitX => k_is)
    (case l_Unchanged_XinitX => k_is)
    (case c_Unchanged_XinitX => k_is)
    (case k_Unchanged_XinitX => k_is)
    (case fn_Unchanged_XinitX => k_is)
    (case fi_Unchanged_XinitX => k_is)
    (case a_TooFew_XinitX => k_is)
    (case l_TooFew_XinitX => k_is)
    (case c_TooFew_XinitX => k_is)
    (case k_TooFew_XinitX => k_is)
    (case fn_TooFew_XinitX => k_is)
    (case fi_TooFew_XinitX => k_is)
    (case a_UnknownField_XinitX => k_is)
    (case l_UnknownField_XinitX => k_is)
    (case c_UnknownField_XinitX => k_is)
    (case k_UnknownField_XinitX => k_is)
    (case fn_UnknownField_XinitX => k_is)
    (case fi_UnknownField_XinitX => k_is)
    (case a_law_source => k_is)
    (case l_law_source => k_is)
    (case c_law_source => k_is)
    (case k_law_source => k_is)
    (case a_law_draw => k_is)
    (case l_law_draw => k_is)
    (case c_law_draw => k_is)
    (case k_law_draw => k_is)
    (case a_law_flags => k_is)
    (case l_law_flags => k_is)
    (case c_law_flags => k_is)
    (case k_law_flags => k_is)
    (case a_law_kept => k_is)
    (case l_law_kept => k_is)
    (case c_law_kept => k_is)
    (case k_law_kept => k_is)
    (case a_law_named => k_is)
    (case l_law_named => k_is)
    (case c_law_named => k_is)
    (case k_law_named => k_is)
    (case a_law_later_kept => k_is)
    (case l_law_later_kept => k_is)
    (case c_law_later_kept => k_is)
    (case k_law_later_kept => k_is)
    (case a_law_later_named => k_is)
    (case l_law_later_named => k_is)
    (case c_law_later_named => k_is)
    (case k_law_later_named => k_is)
    (case a_law => k_is)
    (case l_law => k_is)
    (case c_law => k_is)
    (case k_law => k_is)
    (case kt => kernel_rfl)
    (case nd => decide)


