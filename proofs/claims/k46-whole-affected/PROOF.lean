import PyProof.Rows.All
import Wide.All
import OpenK.AllK
import Wide.FinOn
import HandS.ForMost
import HandS.Wide
import HandS.Walk
import HandS.Rev
import HandS.Flt
import HandS.RaiseMore
import PyProof.NeData
import KE.KSuper
import HandS.Nested
import HandS.OwnEq
import PyProof.InstEq
import HandS.IsInst
import HandS.FStr
import HandS.ExcInit
import HandS.ExcIs
import HandS.ExcField
import HandS.MakeKw
import HandS.ClsMeth
import HandS.ExcOwn
import HandS.Exc
import HandS.TryOnly
import HandS.WordsExc
import HandS.HotCalls
import HandS.Text
import HandS.TupAny
import HandS.Star
import HandS.CallLocal
import HandS.More
import OpenK.KOps
import PyProof.Rows.StrInSeq
import HandS.Style
import HandS.Small
import HandS.WordsDict
import HandS.Dict
import HandS.ListItems
import HandS.DictEq
import KE.KDictOf
import KE.GoesMore
import HandS.Flow
import HandS.Zip
import HandS.Set
import HandS.Strs
import HandS.SetFor
import HandS.Property
import KE.RegKSuper
import KE.OsRunLaw
import PySem.Challenge.RW_sourcequeue_k46_whole_affected
set_option Elab.async false
set_option linter.all false
set_option maxRecDepth 100000
set_option maxHeartbeats 4000000
/-! A layer of our own over HandS: readings that compute (a match on the values in place of an existence), rules that serve several kinds of values, heaps, sources. -/
namespace L2
open PySem PySem.Spec PyProof.Rows

/-! ### weaker readings -/
section
variable {X : Cx}
theorem PE.weak {e : Expr} {t t' : TE} (h : PE X e t) (w : ∀ σ H Q, t' σ H Q → t σ H Q) : PE X e t' := ⟨fun pins s σ H Q I q => h.run pins s σ H Q I (w σ H Q q)⟩
theorem PT.weak {e : Expr} {t t' : TT} (h : PT X e t) (w : ∀ σ H Q, t' σ H Q → t σ H Q) : PT X e t' := ⟨fun pins s σ H Q I q => h.run pins s σ H Q I (w σ H Q q)⟩
theorem PW.weak {e : Expr} {t t' : TT} (h : PW X e t) (w : ∀ σ H Q, t' σ H Q → t σ H Q) : PW X e t' := ⟨fun wh pins s σ H Q I q => h.run wh pins s σ H Q I (w σ H Q q)⟩
theorem PS.weak {st : Stmt} {t t' : TS} (h : PS X st t) (w : ∀ D σ H, t' D σ H → t D σ H) : PS X st t' := ⟨fun pins s σ H D I q => h.run pins s σ H D I (w D σ H q)⟩
theorem PSs.weak {st : List Stmt} {t t' : TS} (h : PSs X st t) (w : ∀ D σ H, t' D σ H → t D σ H) : PSs X st t' := ⟨fun pins s σ H D I q => h.run pins s σ H D I (w D σ H q)⟩
theorem PI.weak {tg iter : Expr} {t t' : TI} (h : PI X tg iter t) (w : ∀ σ H R, t' σ H R → t σ H R) : PI X tg iter t' := ⟨fun pins s σ H R I q => h.run pins s σ H R I (w σ H R q)⟩
theorem PI.or {tg iter : Expr} {wi wi' : TI} (h : PI X tg iter wi) (h' : PI X tg iter wi') : PI X tg iter (fun σ H R => wi σ H R ∨ wi' σ H R) :=
  ⟨fun pins s σ H R I q => q.elim (fun q => h.run pins s σ H R I q) fun q => h'.run pins s σ H R I q⟩
theorem PE.or {e : Expr} {t t' : TE} (h : PE X e t) (h' : PE X e t') : PE X e (fun σ H Q => t σ H Q ∨ t' σ H Q) :=
  ⟨fun pins s σ H R I q => q.elim (fun q => h.run pins s σ H R I q) fun q => h'.run pins s σ H R I q⟩
theorem OpR.weak {f : Value → Value → Sem Value} {r r' : R2} (h : OpR X f r) (w : ∀ x y H Q, r' x y H Q → r x y H Q) : OpR X f r' := fun pins s σ H x y v u Q I rx ry q => h pins s σ H x y v u Q I rx ry (w x y H Q q)
theorem CallR.weak {f : Value} {r r' : List V → Hp → VK → Prop} (h : CallR X f r) (w : ∀ xs H Q, r' xs H Q → r xs H Q) : CallR X f r' := fun pins s σ H xs us Q I rx q => h pins s σ H xs us Q I rx (w xs H Q q)
theorem IxR.weak {r r' : R2} (h : IxR X r) (w : ∀ x y H Q, r' x y H Q → r x y H Q) : IxR X r' := fun va sl pins s σ H x y v u Q I rx ry q => h va sl pins s σ H x y v u Q I rx ry (w x y H Q q)
theorem MtR.weak {id : String} {r r' : V → List V → Hp → VK → Prop} (h : MtR X id r) (w : ∀ x xs H Q, r' x xs H Q → r x xs H Q) : MtR X id r' := fun pins s σ H x xs v us Q I rx rs q => h pins s σ H x xs v us Q I rx rs (w x xs H Q q)
theorem PSet.weak {t t' : TSet} (h : PSet X t) (w : ∀ o i v H Q, t' o i v H Q → t o i v H Q) : PSet X t' := fun pins s σ H o i v ov iv u Q I r1 r2 r3 q => h pins s σ H o i v ov iv u Q I r1 r2 r3 (w o i v H Q q)
end

/-! ### ** of greater numbers -/
def CPowW (i j : Int) : Prop := 0 ≤ j ∧ (Builtin.Int.intBits i : Int) * j ≤ 2 ^ 27
theorem pow_bits {i j : Int} {a : Nat} (ha : i.natAbs < 2 ^ a) (h0 : 0 < a) (hj : 0 ≤ j) (h : ((a : Int) + 1) * j ≤ 2 ^ 27) : CPowW i j := by
  refine ⟨hj, ?_⟩
  have x := PySem.Flt.log2_lt_of h0 ha
  have b : Builtin.Int.intBits i ≤ i.natAbs.log2 + 1 := by
    unfold Builtin.Int.intBits
    split <;> omega
  have h2 : (Builtin.Int.intBits i : Int) ≤ (a : Int) + 1 := by omega
  exact Int.le_trans (Int.mul_le_mul_of_nonneg_right h2 hj) h
theorem log2_small {i : Int} {a : Nat} (ha : i.natAbs < 2 ^ a) (h0 : 0 < a) (h : a ≤ 1920) : i.natAbs.log2 < 1920 := Nat.lt_of_lt_of_le (PySem.Flt.log2_lt_of h0 ha) h

/-! ### names, branches -/
def br (b : Bool) (A B : Prop) : Prop := (b = true → A) ∧ (b = false → B)
theorem br.ite {b : Bool} {A B : Prop} (h : br b A B) : if b = true then A else B := by
  cases b with
  | true => rw [if_pos rfl]; exact h.1 rfl
  | false => rw [if_neg Bool.false_ne_true]; exact h.2 rfl
theorem br.t {A B : Prop} (h : A) : br true A B := ⟨fun _ => h, fun z => Bool.noConfusion z⟩
theorem br.f {A B : Prop} (h : B) : br false A B := ⟨fun z => Bool.noConfusion z, fun _ => h⟩
def tV (i : Nat) : TE := fun σ H Q => match σ[i]? with | some (some v) => Q v H | _ => False
theorem tV_of {i : Nat} {σ : St} {H : Hp} {Q : VK} (h : tV i σ H Q) : tVar i σ H Q := by
  unfold tV at h
  split at h
  · rename_i v e; exact ⟨v, e, h⟩
  · exact h.elim
def tTst (t : TE) : TT := fun σ H Q => t σ H fun x H1 => match x with | .bl k => Q k H1 | _ => False
def tAndC (t u : TT) : TT := fun σ H Q => t σ H fun c H1 => br c (u σ H1 Q) (Q false H1)
def tOrC (t u : TT) : TT := fun σ H Q => t σ H fun c H1 => br c (Q true H1) (u σ H1 Q)
def tIfC (t : TT) (ta tb : TE) : TE := fun σ H Q => t σ H fun c H1 => br c (ta σ H1 Q) (tb σ H1 Q)
def tIfSC (c : TT) (t u : TS) : TS := fun D σ H => c σ H fun b H1 => br b (t D σ H1) (u D σ H1)
def tAndVC (ta tb : TE) : TE := fun σ H Q => ta σ H fun x H1 => match x with | .bl c => br c (tb σ H1 Q) (Q (.bl false) H1) | _ => False
def tOrVC (ta tb : TE) : TE := fun σ H Q => ta σ H fun x H1 => match x with | .bl c => br c (Q (.bl true) H1) (tb σ H1 Q) | _ => False
def tNotVC (ta : TT) : TE := fun σ H Q => ta σ H fun c H1 => Q (.bl (!c)) H1
/-- a test's answers are joined: what is known of them stands in P -/
def tJn (t : TT) : TT := fun σ H Q => ∃ P : Bool → Hp → Prop, t σ H P ∧ ∀ b H', P b H' → Q b H'
/-- a statement's ends are joined -/
def tCt (t : TS) : TS := fun D σ H => ∃ P : St → Hp → Prop, t { D with nx := P } σ H ∧ ∀ σ' H', P σ' H' → D.nx σ' H'
section
variable {X : Cx} {e a b c : Expr} {rest : List Expr} {te ta tb : TE} {tA tB : TT} {pos : Pos}
theorem cv (i : Nat) {x : Str} {pos : Pos} (hN : X.N[i]? = some x := by rfl) (hv : Vis X.env.scope x := by first | exact Or.inl rfl | exact Or.inr (Or.inl rfl) | exact Or.inr (Or.inr rfl)) (hd : (x == ("__debug__" : Str)) = false := by decide)
    (hcd : (x == ("__classdict__" : Str)) = false := by decide) : PE X (.Name x pos) (tV i) := (pe_var hN hv hd hcd).weak fun _ _ _ h => tV_of h
theorem run_bl {pins : List (Addr × Obj)} {s : Shared} {σ : St} {H : Hp} {Q : Bool → Hp → Prop} {t : Sem Value} (h : wpAny (model X.prog X.w) X.A t (EP X pins σ (fun x H1 => match x with | .bl k => Q k H1 | _ => False)) X.xe s) :
    wpAny (model X.prog X.w) X.A t (EP X pins σ (fun x H1 => ∃ k, x = .bl k ∧ Q k H1)) X.xe s := by
  refine thn h fun v s1 hv => ?_
  obtain ⟨x, H1, I1, r1, q1⟩ := hv
  cases x with
  | bl k => exact ⟨_, H1, I1, r1, k, rfl, q1⟩
  | _ => exact q1.elim
theorem PE.bl (h : PE X e te) : PE X e (fun σ H Q => te σ H fun x H1 => match x with | .bl k => Q (.bl k) H1 | _ => False) := ⟨fun pins s σ H Q I q => by
  refine thn (h.run pins s σ H _ I q) fun v s1 hv => ?_
  obtain ⟨x, H1, I1, r1, q1⟩ := hv
  cases x with
  | bl k => exact ⟨_, H1, I1, r1, q1⟩
  | _ => exact q1.elim⟩
theorem ct_val (h : PE X e te) (he : ∀ whole, isTrue e X.env whole = (do let v ← whole; standAt e.pos; holding [v] (truthy v)) := by intro _; rfl) : PT X e (tTst te) := ⟨fun pins s σ H Q I q => by
  have h2 : PE X e (fun σ H Q => te σ H fun x H1 => match x with | .bl k => Q (.bl k) H1 | _ => False) := h.bl
  have h3 := pt_val h2 he
  exact h3.run pins s σ H Q I (by
    show te σ H _
    have q' : te σ H fun x H1 => match x with | .bl k => Q k H1 | _ => False := q
    have eq : (fun x H1 => match x with | .bl k => Q k H1 | _ => False) = (fun (x : V) (H1 : Hp) => match x with | .bl k => (fun (x : V) (H' : Hp) => ∃ k, x = .bl k ∧ Q k H') (.bl k) H1 | _ => False) := by
      funext x H1
      cases x with
      | bl k => exact propext ⟨fun q => ⟨k, rfl, q⟩, fun ⟨k', e, q⟩ => by cases e; exact q⟩
      | _ => rfl
    rw [eq] at q'
    exact q')⟩
theorem OpR.bl {f : Value → Value → Sem Value} {r : R2} (h : OpR X f r) : OpR X f (fun x y H Q => r x y H fun z H1 => match z with | .bl k => Q (.bl k) H1 | _ => False) := fun pins s σ H x y v u Q I rx ry q => by
  refine thn (h pins s σ H x y v u _ I rx ry q) fun v s1 hv => ?_
  obtain ⟨x, H1, I1, r1, q1⟩ := hv
  cases x with
  | bl k => exact ⟨_, H1, I1, r1, q1⟩
  | _ => exact q1.elim
theorem ct_cmp {op : CmpOp} {r : R2} (ho : OpR X (compareOp op) r) (ha : PE X a ta) (hb : PE X b tb) (hm : behindInMarks op b = false) : PT X (.Compare a [op] [b] pos) (tTst (tOp r ta tb)) :=
  (pt_cmpR ho.bl ha hb hm).weak fun σ H Q h => by
    have eq : (fun (x : V) (H1 : Hp) => match x with | .bl k => Q k H1 | _ => False) = (fun (x : V) (H1 : Hp) => match x with | .bl k => (fun (x : V) (H' : Hp) => ∃ k, x = .bl k ∧ Q k H') (.bl k) H1 | _ => False) := by
      funext x H1
      cases x with
      | bl k => exact propext ⟨fun q => ⟨k, rfl, q⟩, fun ⟨k', e, q⟩ => by cases e; exact q⟩
      | _ => rfl
    have h' : ta σ H fun x H1 => tb σ H1 fun y H2 => r x y H2 fun (x : V) (H1 : Hp) => match x with | .bl k => Q k H1 | _ => False := h
    rw [eq] at h'
    exact h'
theorem run_br {t : TT} {e : Expr} (h : PT X e t) {pins : List (Addr × Obj)} {s : Shared} {σ : St} {H : Hp} {A B : Hp → Prop} (I : Inv X pins σ H s) (q : t σ H fun c H1 => br c (A H1) (B H1)) :
    wpAny (model X.prog X.w) X.A (isTrue e X.env (eval e X.env)) (TP X pins σ fun c H1 => if c = true then A H1 else B H1) X.xe s :=
  thn (h.run pins s σ H _ I q) fun c s1 ⟨H1, I1, q1⟩ => ⟨H1, I1, q1.ite⟩
/-- the branch of a test as br -/
theorem PT.br2 (h : PT X e tA) : PT X e (fun σ H Q => tA σ H fun c H1 => L2.br c (Q true H1) (Q false H1)) := ⟨fun pins s σ H Q I q => by
  refine thn (h.run pins s σ H _ I q) fun c s1 ⟨H1, I1, q1⟩ => ⟨H1, I1, ?_⟩
  cases c with
  | true => exact q1.1 rfl
  | false => exact q1.2 rfl⟩
theorem br_if {c : Bool} {A B : Prop} : (if c = true then A else B) = br c A B := by
  cases c with
  | true => rw [if_pos rfl]; exact propext ⟨fun h => .t h, fun h => h.1 rfl⟩
  | false => rw [if_neg Bool.false_ne_true]; exact propext ⟨fun h => .f h, fun h => h.2 rfl⟩
theorem tAnd_eq (t u : TT) : tAnd t u = tAndC t u := by funext σ H Q; unfold tAnd tAndC; congr 1; funext c H1; exact br_if
theorem tOr_eq (t u : TT) : tOr t u = tOrC t u := by funext σ H Q; unfold tOr tOrC; congr 1; funext c H1; exact br_if
theorem tIf_eq (t : TT) (u v : TE) : tIf t u v = tIfC t u v := by funext σ H Q; unfold tIf tIfC; congr 1; funext c H1; exact br_if
theorem tIfS_eq (t : TT) (u v : TS) : tIfS t u v = tIfSC t u v := by funext D σ H; unfold tIfS tIfSC; congr 1; funext c H1; exact br_if
theorem cw_and (ha : PT X a tA) (hb : PW X (.BoolOp .And (b :: rest) pos) tB) : PW X (.BoolOp .And (a :: b :: rest) pos) (tAndC tA tB) := by rw [← tAnd_eq]; exact pw_and ha hb
theorem cw_or (ha : PT X a tA) (hb : PW X (.BoolOp .Or (b :: rest) pos) tB) : PW X (.BoolOp .Or (a :: b :: rest) pos) (tOrC tA tB) := by rw [← tOr_eq]; exact pw_or ha hb
theorem ce_if {c : Expr} (hc : PT X c tA) (ha : PE X a ta) (hb : PE X b tb) : PE X (.IfExp c a b pos) (tIfC tA ta tb) := by rw [← tIf_eq]; exact pe_ifExp hc ha hb
theorem cs_if {c : Expr} {a b : List Stmt} {tc : TT} {t u : TS} (hc : PT X c tc) (ha : PSs X a t) (hb : PSs X b u) : PS X (.If c a b pos) (tIfSC tc t u) := by rw [← tIfS_eq]; exact ps_if hc ha hb
theorem bl_eq {te : TE} {σ : St} {H : Hp} {f : Bool → Hp → Prop} : (te σ H fun x H1 => match x with | .bl c => f c H1 | _ => False) → (fun σ H (Q : VK) => te σ H fun x H1 => match x with | .bl k => Q (.bl k) H1 | _ => False) σ H fun x H1 => ∃ c, x = .bl c ∧ f c H1 := by
  intro h
  show te σ H _
  have eq : (fun (x : V) (H1 : Hp) => match x with | .bl c => f c H1 | _ => False) = (fun (x : V) (H1 : Hp) => match x with | .bl k => (fun (x : V) (H' : Hp) => ∃ k, x = .bl k ∧ f k H') (.bl k) H1 | _ => False) := by
    funext x H1
    cases x with
    | bl k => exact propext ⟨fun q => ⟨k, rfl, q⟩, fun ⟨k', e, q⟩ => by cases e; exact q⟩
    | _ => rfl
  rw [eq] at h
  exact h
theorem ce_and (ha : PE X a ta) (hb : PE X (.BoolOp .And (b :: rest) pos) tb) : PE X (.BoolOp .And (a :: b :: rest) pos) (tAndVC ta tb) :=
  (pe_and ha.bl hb).weak fun σ H Q h => bl_eq (f := fun c H1 => if c = true then tb σ H1 Q else Q (.bl false) H1) (by
    have h' : ta σ H fun x H1 => match x with | .bl c => br c (tb σ H1 Q) (Q (.bl false) H1) | _ => False := h
    have eq : (fun (x : V) (H1 : Hp) => match x with | .bl c => br c (tb σ H1 Q) (Q (.bl false) H1) | _ => False) = (fun (x : V) (H1 : Hp) => match x with | .bl c => if c = true then tb σ H1 Q else Q (.bl false) H1 | _ => False) := by
      funext x H1
      cases x with
      | bl k => exact br_if.symm
      | _ => rfl
    rw [eq] at h'
    exact h')
theorem ce_or (ha : PE X a ta) (hb : PE X (.BoolOp .Or (b :: rest) pos) tb) : PE X (.BoolOp .Or (a :: b :: rest) pos) (tOrVC ta tb) :=
  (pe_or ha.bl hb).weak fun σ H Q h => bl_eq (f := fun c H1 => if c = true then Q (.bl true) H1 else tb σ H1 Q) (by
    have h' : ta σ H fun x H1 => match x with | .bl c => br c (Q (.bl true) H1) (tb σ H1 Q) | _ => False := h
    have eq : (fun (x : V) (H1 : Hp) => match x with | .bl c => br c (Q (.bl true) H1) (tb σ H1 Q) | _ => False) = (fun (x : V) (H1 : Hp) => match x with | .bl c => if c = true then Q (.bl true) H1 else tb σ H1 Q | _ => False) := by
      funext x H1
      cases x with
      | bl k => exact br_if.symm
      | _ => rfl
    rw [eq] at h'
    exact h')
theorem PT.join (h : PT X e tA) : PT X e (tJn tA) := ⟨fun pins s σ H Q I ⟨P, h1, h2⟩ => thn (h.run pins s σ H P I h1) fun b s1 ⟨H1, I1, q1⟩ => ⟨H1, I1, h2 b H1 q1⟩⟩
theorem PS.cut {st : Stmt} {t : TS} (h : PS X st t) : PS X st (tCt t) := ⟨fun pins s σ H D I ⟨P, h1, h2⟩ => thn (h.run pins s σ H _ I h1) fun f s1 q => by
  cases f with
  | next => obtain ⟨σ', H', I', q'⟩ := q; exact ⟨σ', H', I', h2 σ' H' q'⟩
  | brk => exact q
  | cont => exact q
  | ret u => exact q⟩
end

/-! ### == of flat lists -/
/-- two lists of flat values, item by item -/
def eqVs : List V → List V → Bool
  | [], [] => true
  | x :: xs, y :: ys => eqV x y && eqVs xs ys
  | _, _ => false
theorem eqVs_len : ∀ xs ys : List V, eqVs xs ys = true → xs.length = ys.length
  | [], [], _ => rfl
  | x :: xs, y :: ys, h => by
    rw [eqVs, Bool.and_eq_true] at h
    rw [List.length_cons, List.length_cons, eqVs_len xs ys h.2]
  | [], y :: ys, h => by simp [eqVs] at h
  | x :: xs, [], h => by simp [eqVs] at h
theorem eqVs_all : ∀ xs ys : List V, xs.length = ys.length → eqVs xs ys = (List.range xs.length).all fun j => eqV (xs.getD j .non) (ys.getD j .non)
  | [], [], _ => rfl
  | x :: xs, y :: ys, h => by
    rw [eqVs, eqVs_all xs ys (by simpa using h), List.length_cons, List.range_succ_eq_map, List.all_cons, List.all_map]
    rfl
  | [], y :: ys, h => by simp at h
  | x :: xs, [], h => by simp at h
theorem eqVs_strs : ∀ xs ys : List Str, eqVs (xs.map V.str) (ys.map V.str) = decide (xs = ys)
  | [], [] => rfl
  | [], y :: ys => by simp [eqVs]
  | x :: xs, [] => by simp [eqVs]
  | x :: xs, y :: ys => by
    rw [List.map_cons, List.map_cons, eqVs, eqVs_strs xs ys]
    show (x == y && _) = _
    by_cases h : x = y <;> by_cases g : xs = ys <;> simp [h, g]
theorem eqVs_ints : ∀ xs ys : List Int, eqVs (xs.map V.int) (ys.map V.int) = decide (xs = ys)
  | [], [] => rfl
  | [], y :: ys => by simp [eqVs]
  | x :: xs, [] => by simp [eqVs]
  | x :: xs, y :: ys => by
    rw [List.map_cons, List.map_cons, eqVs, eqVs_ints xs ys]
    show (x == y && _) = _
    by_cases h : x = y <;> by_cases g : xs = ys <;> simp [h, g]
theorem eqVs_bls : ∀ xs ys : List Bool, eqVs (xs.map V.bl) (ys.map V.bl) = decide (xs = ys)
  | [], [] => rfl
  | [], y :: ys => by simp [eqVs]
  | x :: xs, [] => by simp [eqVs]
  | x :: xs, y :: ys => by
    rw [List.map_cons, List.map_cons, eqVs, eqVs_bls xs ys]
    show (x == y && _) = _
    by_cases h : x = y <;> by_cases g : xs = ys <;> simp [h, g]
/-- two lists, two tuples, of flat values -/
def SqP (K : PySem.W.Frag) (H : Hp) (a b : Addr) (xs ys : List V) : Prop := (SqL K H a xs ∧ SqL K H b ys) ∨ (SqT K H a xs ∧ SqT K H b ys)
def rEqF (K : PySem.W.Frag) : R2 := fun x y H Q => ∃ a b xs ys, x = .ref a ∧ y = .ref b ∧ SqP K H a b xs ys ∧ xs.all flatV = true ∧ ys.all flatV = true ∧ Q (.bl (eqVs xs ys)) H
def rNeF (K : PySem.W.Frag) : R2 := fun x y H Q => ∃ a b xs ys, x = .ref a ∧ y = .ref b ∧ SqP K H a b xs ys ∧ xs.all flatV = true ∧ ys.all flatV = true ∧ Q (.bl (!eqVs xs ys)) H
section
variable {X : Cx} {pins : List (Addr × Obj)} {s : Shared} {σ : St} {H : Hp}
theorem flatq_at {A : Around} {xs ys : List V} {its its2 : List Value} (r1 : Vals xs its) (r2 : Vals ys its2) (f1 : xs.all flatV = true) (f2 : ys.all flatV = true) (j : Nat) (h1 : j < its.toArray.size) (h2 : j < its2.toArray.size) :
    SeqAt.EqAt A s its.toArray[j] its2.toArray[j] (eqV (xs.getD j .non) (ys.getD j .non)) := by
  have e1 := r1.length
  have e2 := r2.length
  have h1' : j < xs.length := by rw [e1]; simpa using h1
  have h2' : j < ys.length := by rw [e2]; simpa using h2
  obtain ⟨u, hu, ru⟩ := r1.get (List.getElem?_eq_getElem h1')
  obtain ⟨v, hv, rv⟩ := r2.get (List.getElem?_eq_getElem h2')
  have g1 : its.toArray[j] = u := by
    have := List.getElem?_eq_getElem (show j < its.length by simpa using h1)
    rw [this] at hu
    simpa using hu
  have g2 : its2.toArray[j] = v := by
    have := List.getElem?_eq_getElem (show j < its2.length by simpa using h2)
    rw [this] at hv
    simpa using hv
  have q1 : xs.getD j .non = xs[j] := by simp [h1']
  have q2 : ys.getD j .non = ys[j] := by simp [h2']
  rw [g1, g2, q1, q2]
  exact eqAt_V ru rv (List.all_eq_true.mp f1 _ (List.getElem_mem h1')) (List.all_eq_true.mp f2 _ (List.getElem_mem h2'))
theorem eqVs_ne {xs ys : List V} (h : xs.length ≠ ys.length) : eqVs xs ys = false := by
  cases e : eqVs xs ys with
  | false => rfl
  | true => exact absurd (eqVs_len _ _ e) h
theorem min_all {e : Nat → Bool} {m n : Nat} (h : m = n) : ((List.range (min m n)).all e && m == n) = (List.range m).all e := by subst h; simp
theorem op_eqF (hu : X.A.units < cLine) : OpR X (compareOp .Eq) (rEqF X.K) := by
  intro pins s σ H x y v u Q I rx ry h
  obtain ⟨a, b, xs, ys, rfl, rfl, hs, f1, f2, q⟩ := h
  cases rx
  cases ry
  rcases hs with ⟨h1, h2⟩ | ⟨h1, h2⟩
  · obtain ⟨its, r1, p1, z1⟩ := I.list h1
    obtain ⟨its2, r2, p2, z2⟩ := I.list h2
    by_cases hl : xs.length = ys.length
    · have hsz : its.toArray.size = its2.toArray.size := by rw [List.size_toArray, List.size_toArray, ← r1.length, ← r2.length, hl]
      refine SeqAt.eq_listAt p1.isList p2.isList hsz hu (fun j a b => flatq_at r1 r2 f1 f2 j a b) ⟨.bl (eqVs xs ys), H, I, ?_, q⟩
      rw [eqVs_all _ _ hl, r1.length, List.size_toArray]; rfl
    · refine SeqAt.eq_list_lengthsAt p1.isList p2.isList ?_ hu ⟨.bl (eqVs xs ys), H, I, ?_, q⟩
      · simp only [List.size_toArray, ← r1.length, ← r2.length]; simpa using hl
      · rw [eqVs_ne hl]; rfl
  · obtain ⟨its, r1, p1, z1⟩ := I.tuple h1
    obtain ⟨its2, r2, p2, z2⟩ := I.tuple h2
    refine SeqAt.eq_tupleAt (show s.heap.IsTuple a its.toArray from p1) (show s.heap.IsTuple b its2.toArray from p2) hu (fun j a b => flatq_at r1 r2 f1 f2 j a b) ⟨.bl (eqVs xs ys), H, I, ?_, q⟩
    by_cases hl : xs.length = ys.length
    · have hsz : its.toArray.size = its2.toArray.size := by rw [List.size_toArray, List.size_toArray, ← r1.length, ← r2.length, hl]
      rw [min_all hsz, eqVs_all _ _ hl, r1.length, List.size_toArray]; rfl
    · rw [eqVs_ne hl]
      have : (its.toArray.size == its2.toArray.size) = false := by simp only [List.size_toArray, ← r1.length, ← r2.length]; simpa using hl
      rw [this, Bool.and_false]; rfl
theorem op_neF (hu : X.A.units < cLine) : OpR X (compareOp .NotEq) (rNeF X.K) := by
  intro pins s σ H x y v u Q I rx ry h
  obtain ⟨a, b, xs, ys, rfl, rfl, hs, f1, f2, q⟩ := h
  cases rx
  cases ry
  show wpAny (model X.prog X.w) X.A (richCompare .NotEq _ _) _ _ _
  rcases hs with ⟨h1, h2⟩ | ⟨h1, h2⟩
  · obtain ⟨its, r1, p1, z1⟩ := I.list h1
    obtain ⟨its2, r2, p2, z2⟩ := I.list h2
    by_cases hl : xs.length = ys.length
    · have hsz : its.toArray.size = its2.toArray.size := by rw [List.size_toArray, List.size_toArray, ← r1.length, ← r2.length, hl]
      refine SeqAt.RcNeAt.lists p1.isList p2.isList hsz hu (fun j a b => flatq_at r1 r2 f1 f2 j a b) _ _ _ _ ⟨.bl (!eqVs xs ys), H, I, ?_, q⟩
      rw [eqVs_all _ _ hl, r1.length, List.size_toArray]; rfl
    · refine SeqAt.RcNeAt.lists_lengths p1.isList p2.isList ?_ hu _ _ _ _ ⟨.bl (!eqVs xs ys), H, I, ?_, q⟩
      · simp only [List.size_toArray, ← r1.length, ← r2.length]; simpa using hl
      · rw [eqVs_ne hl]; rfl
  · obtain ⟨its, r1, p1, z1⟩ := I.tuple h1
    obtain ⟨its2, r2, p2, z2⟩ := I.tuple h2
    refine SeqAt.RcNeAt.tuples (show s.heap.IsTuple a its.toArray from p1) (show s.heap.IsTuple b its2.toArray from p2) hu (fun j a b => flatq_at r1 r2 f1 f2 j a b) _ _ _ _ ⟨.bl (!eqVs xs ys), H, I, ?_, q⟩
    by_cases hl : xs.length = ys.length
    · have hsz : its.toArray.size = its2.toArray.size := by rw [List.size_toArray, List.size_toArray, ← r1.length, ← r2.length, hl]
      rw [min_all hsz, eqVs_all _ _ hl, r1.length, List.size_toArray]; rfl
    · rw [eqVs_ne hl]
      have : (its.toArray.size == its2.toArray.size) = false := by simp only [List.size_toArray, ← r1.length, ← r2.length]; simpa using hl
      rw [this, Bool.and_false]; rfl
end
theorem flatV_strs (xs : List Str) : (xs.map V.str).all flatV = true := by simp [flatV]
theorem flatV_ints (xs : List Int) : (xs.map V.int).all flatV = true := by simp [flatV]
theorem flatV_bls (xs : List Bool) : (xs.map V.bl).all flatV = true := by simp [flatV]
theorem rEq_strs {K : PySem.W.Frag} {H : Hp} {a b : Addr} {xs ys : List Str} {Q : VK} (h : SqP K H a b (xs.map V.str) (ys.map V.str)) (q : Q (.bl (decide (xs = ys))) H) : rEqF K (.ref a) (.ref b) H Q :=
  ⟨a, b, _, _, rfl, rfl, h, flatV_strs xs, flatV_strs ys, by rw [eqVs_strs]; exact q⟩
theorem rNe_strs {K : PySem.W.Frag} {H : Hp} {a b : Addr} {xs ys : List Str} {Q : VK} (h : SqP K H a b (xs.map V.str) (ys.map V.str)) (q : Q (.bl (!decide (xs = ys))) H) : rNeF K (.ref a) (.ref b) H Q :=
  ⟨a, b, _, _, rfl, rfl, h, flatV_strs xs, flatV_strs ys, by rw [eqVs_strs]; exact q⟩
theorem rNe_ints {K : PySem.W.Frag} {H : Hp} {a b : Addr} {xs ys : List Int} {Q : VK} (h : SqP K H a b (xs.map V.int) (ys.map V.int)) (q : Q (.bl (!decide (xs = ys))) H) : rNeF K (.ref a) (.ref b) H Q :=
  ⟨a, b, _, _, rfl, rfl, h, flatV_ints xs, flatV_ints ys, by rw [eqVs_ints]; exact q⟩
theorem rNe_bls {K : PySem.W.Frag} {H : Hp} {a b : Addr} {xs ys : List Bool} {Q : VK} (h : SqP K H a b (xs.map V.bl) (ys.map V.bl)) (q : Q (.bl (!decide (xs = ys))) H) : rNeF K (.ref a) (.ref b) H Q :=
  ⟨a, b, _, _, rfl, rfl, h, flatV_bls xs, flatV_bls ys, by rw [eqVs_bls]; exact q⟩

/-! ### operators -/
def rAddC (K : PySem.W.Frag) : R2 := fun x y H Q => match x, y with
  | .int i, .int j => Q (.int (i + j)) H
  | .str i, .str j => i.length + j.length ≤ sizeLine ∧ Q (.str (i ++ j)) H
  | .ref l, .ref b => (∃ xs zs, H l = some (.lst xs) ∧ H b = some (.lst zs) ∧ xs.length + zs.length ≤ sizeLine ∧ ∀ p, H p = none → Q (.ref p) (upd H p (.lst (xs ++ zs)))) ∨ rCatT K (.ref l) (.ref b) H Q
  | _, _ => False
def rMulC : R2 := fun x y H Q => match x, y with
  | .int i, .int j => CMul i j ∧ Q (.int (i * j)) H
  | .ref l, .int k => rRep (.ref l) (.int k) H Q
  | _, _ => False
def rIC (C : Int → Int → Prop) (g : Int → Int → V) : R2 := fun x y H Q => match x, y with
  | .int i, .int j => C i j ∧ Q (g i j) H
  | _, _ => False
def rI0C (g : Int → Int → V) : R2 := fun x y H Q => match x, y with
  | .int i, .int j => Q (g i j) H
  | _, _ => False
def rCmpC (g : Int → Int → Bool) (h : Str → Str → Bool) : R2 := fun x y H Q => match x, y with
  | .int i, .int j => Q (.bl (g i j)) H
  | .str i, .str j => Q (.bl (h i j)) H
  | _, _ => False
def rEqC (K : PySem.W.Frag) : R2 := fun x y H Q => match x, y with
  | .int i, .int j => Q (.bl (decide (i = j))) H
  | .str i, .str j => Q (.bl (decide (i = j))) H
  | .bl i, .bl j => Q (.bl (decide (i = j))) H
  | .ref a, .ref b => rEqF K (.ref a) (.ref b) H Q ∨ rEqD K (.ref a) (.ref b) H Q
  | x, y => scal x y = true ∧ Q (.bl (decide (x = y))) H
def rNeC (K : PySem.W.Frag) : R2 := fun x y H Q => match x, y with
  | .int i, .int j => Q (.bl (!decide (i = j))) H
  | .str i, .str j => Q (.bl (!decide (i = j))) H
  | .bl i, .bl j => Q (.bl (!decide (i = j))) H
  | .ref a, .ref b => rNeF K (.ref a) (.ref b) H Q ∨ rNeD K (.ref a) (.ref b) H Q
  | x, y => scal x y = true ∧ Q (.bl (!decide (x = y))) H
def rIxC (K : PySem.W.Frag) : R2 := fun x y H Q => match x, y with
  | .ref p, .int i => ∃ xs v, (SqL K H p xs ∨ SqT K H p xs) ∧ atI xs i = some v ∧ Q v H
  | .str z, .int i => ∃ c, z.length ≤ sizeLine ∧ atI z.cps.toList i = some c ∧ Q (.str ⟨#[c]⟩) H
  | _, _ => False
def rSetC : TSet := fun o i v H Q => match o, i with
  | .ref p, .int k => ∃ xs j, H p = some (.lst xs) ∧ ixN xs.length k = some j ∧ Q (upd H p (.lst (xs.set j v)))
  | _, _ => False
def rUC (g : Int → V) : V → Hp → VK → Prop := fun x H Q => match x with
  | .int i => Q (g i) H
  | _ => False
theorem dV_int {i j : Int} : decide (V.int i = V.int j) = decide (i = j) := by by_cases h : i = j <;> simp [h]
theorem dV_str {i j : Str} : decide (V.str i = V.str j) = decide (i = j) := by by_cases h : i = j <;> simp [h]
theorem dV_bl {i j : Bool} : decide (V.bl i = V.bl j) = decide (i = j) := by by_cases h : i = j <;> simp [h]
section
variable {X : Cx}
theorem oc_add {K : PySem.W.Frag} (hK : X.K = K := by rfl) : OpR X (binaryOp .Add) (rAddC K) := hK ▸ (op_add.or (op_add_str.or (op_cat.or op_catT))).weak fun x y H Q h => by
  cases x <;> cases y <;> first | exact False.elim h | skip
  · exact .inl ⟨_, _, rfl, rfl, h⟩
  · exact .inr (.inl ⟨_, _, rfl, rfl, h⟩)
  · rcases h with ⟨xs, zs, h⟩ | h
    · exact .inr (.inr (.inl ⟨_, _, xs, zs, rfl, rfl, h⟩))
    · exact .inr (.inr (.inr h))
theorem oc_mul : OpR X (binaryOp .Mult) rMulC := (op_mul.or op_rep).weak fun x y H Q h => by
  cases x <;> cases y <;> first | exact False.elim h | skip
  · exact .inl ⟨_, _, rfl, rfl, h⟩
  · exact .inr h
theorem OpR.int {f : Value → Value → Sem Value} {C : Int → Int → Prop} {g : Int → Int → V} (h : OpR X f (rI C g)) : OpR X f (rIC C g) := h.weak fun x y H Q h => by
  cases x <;> cases y <;> first | exact False.elim h | exact ⟨_, _, rfl, rfl, h⟩
theorem OpR.int0 {f : Value → Value → Sem Value} {g : Int → Int → V} (h : OpR X f (rI0 g)) : OpR X f (rI0C g) := h.weak fun x y H Q h => by
  cases x <;> cases y <;> first | exact False.elim h | exact ⟨_, _, rfl, rfl, h⟩
theorem oc_sub : OpR X (binaryOp .Sub) (rI0C fun i j => .int (i - j)) := op_sub.int0
theorem oc_div : OpR X (binaryOp .FloorDiv) (rIC CDivW fun i j => .int (i / j)) := op_fdivW.int
theorem oc_mod : OpR X (binaryOp .Mod) (rIC (fun _ j => 0 < j) fun i j => .int (i % j)) := op_mod.int
theorem oc_pow : OpR X (binaryOp .Pow) (rIC CPowW fun i j => .int (i ^ j.toNat)) := OpR.int (opI fun _ _ _ _ _ _ _ hc q => pow_int hc.1 hc.2 q)
theorem OpR.cmp {f : Value → Value → Sem Value} {g : Int → Int → Bool} {k : Str → Str → Bool} (h : OpR X f (rI0 fun i j => .bl (g i j))) (h' : OpR X f (fun x y H Q => ∃ i j, x = .str i ∧ y = .str j ∧ Q (.bl (k i j)) H)) : OpR X f (rCmpC g k) := (h.or h').weak fun x y H Q h => by
  cases x <;> cases y <;> first | exact False.elim h | exact .inl ⟨_, _, rfl, rfl, h⟩ | exact .inr ⟨_, _, rfl, rfl, h⟩
theorem oc_lt : OpR X (compareOp .Lt) (rCmpC (fun i j => decide (i < j)) fun i j => decide (i.cps.toList < j.cps.toList)) := op_lt.cmp op_lt_str
theorem oc_le : OpR X (compareOp .LtE) (rCmpC (fun i j => decide (i ≤ j)) fun i j => !decide (j.cps.toList < i.cps.toList)) := op_le.cmp op_le_str
theorem oc_gt : OpR X (compareOp .Gt) (rCmpC (fun i j => decide (j < i)) fun i j => decide (j.cps.toList < i.cps.toList)) := op_gt.cmp op_gt_str
theorem oc_ge : OpR X (compareOp .GtE) (rCmpC (fun i j => decide (j ≤ i)) fun i j => !decide (i.cps.toList < j.cps.toList)) := op_ge.cmp op_ge_str
theorem oc_eq {K : PySem.W.Frag} (hu : X.A.units + 64 < cLine) (hK : X.K = K := by rfl) : OpR X (compareOp .Eq) (rEqC K) := hK ▸ (op_eq.or ((op_eqF (by omega)).or (op_eqD hu))).weak fun x y H Q h => by
  cases x <;> cases y <;> first | exact .inl h | exact .inr h | exact .inl ⟨rfl, by rw [dV_int]; exact h⟩ | exact .inl ⟨rfl, by rw [dV_str]; exact h⟩ | exact .inl ⟨rfl, by rw [dV_bl]; exact h⟩
theorem oc_ne {K : PySem.W.Frag} (hu : X.A.units + 64 < cLine) (hK : X.K = K := by rfl) : OpR X (compareOp .NotEq) (rNeC K) := hK ▸ (op_ne.or ((op_neF (by omega)).or (op_neD hu))).weak fun x y H Q h => by
  cases x <;> cases y <;> first | exact .inl h | exact .inr h | exact .inl ⟨rfl, by rw [dV_int]; exact h⟩ | exact .inl ⟨rfl, by rw [dV_str]; exact h⟩ | exact .inl ⟨rfl, by rw [dV_bl]; exact h⟩
theorem ic_seq {K : PySem.W.Frag} (hK : X.K = K := by rfl) : IxR X (rIxC K) := hK ▸ ix_seq.weak fun x y H Q h => by
  cases x <;> cases y <;> first | exact False.elim h | skip
  · obtain ⟨c, h⟩ := h; exact .inr (.inr ⟨_, _, c, rfl, rfl, h⟩)
  · obtain ⟨xs, v, h | h, q⟩ := h
    · exact .inl ⟨_, xs, _, v, rfl, rfl, h, q⟩
    · exact .inr (.inl ⟨_, xs, _, v, rfl, rfl, h, q⟩)
theorem set_c : PSet X rSetC := set_list.weak fun o i v H Q h => by
  cases o <;> cases i <;> first | exact False.elim h | skip
  obtain ⟨xs, j, h⟩ := h
  exact ⟨_, xs, _, j, rfl, rfl, h⟩
theorem uc_neg : UnR X (unaryOp .USub) (rUC fun i => .int (-i)) := fun pins s σ H x u Q I rx h => un_neg pins s σ H x u Q I rx (by
  cases x <;> first | exact False.elim h | exact ⟨_, rfl, h⟩)
end

/-! ### calls of built-ins -/
def rLenC (K : PySem.W.Frag) : List V → Hp → VK → Prop := fun xs H Q => match xs with
  | [.ref p] => ∃ ys, (SqL K H p ys ∨ SqT K H p ys) ∧ Q (.int ys.length) H
  | [.str z] => z.length ≤ sizeLine ∧ Q (.int z.length) H
  | _ => False
def rMaxC : List V → Hp → VK → Prop := fun xs H Q => match xs with
  | [.int i, .int j] => Q (.int (max i j)) H
  | [.int i, .int j, .int k] => Q (.int (max (max i j) k)) H
  | _ => False
def rMinC : List V → Hp → VK → Prop := fun xs H Q => match xs with
  | [.int i, .int j] => Q (.int (min i j)) H
  | _ => False
def rTupC (K : PySem.W.Frag) : List V → Hp → VK → Prop := fun xs H Q => match xs with
  | [.ref p] => ∃ ys, (SqL K H p ys ∧ ∀ l, H l = none → Q (.ref l) (upd H l (.tup ys))) ∨ (SqT K H p ys ∧ Q (.ref p) H)
  | _ => False
def rListC (K : PySem.W.Frag) : List V → Hp → VK → Prop := fun xs H Q => match xs with
  | [.ref p] => ∃ ys, (SqL K H p ys ∨ SqT K H p ys) ∧ ∀ l, H l = none → Q (.ref l) (upd H l (.lst ys))
  | _ => False
def rStrC : List V → Hp → VK → Prop := fun xs H Q => match xs with
  | [.int i] => i.natAbs.log2 < 1920 ∧ Q (.str (toString i)) H
  | _ => False
section
variable {X : Cx}
theorem cc_len {K : PySem.W.Frag} (hK : X.K = K := by rfl) : CallR X (.builtin "len") (rLenC K) := hK ▸ (call_len_seq.or call_len_str).weak fun xs H Q h => by
  unfold rLenC at h
  split at h
  · obtain ⟨ys, h⟩ := h; exact .inl ⟨_, ys, rfl, h⟩
  · exact .inr ⟨_, rfl, h⟩
  · exact h.elim
theorem max_if (i j : Int) : (if j > i then j else i) = max i j := by omega
theorem min_if (i j : Int) : (if j < i then j else i) = min i j := by omega
theorem nuMax2_int (i j : Int) : nuMax2 (.int i) (.int j) = some (.int (max i j)) := by
  show some (if decide (i < j) = true then V.int j else V.int i) = _
  by_cases h : i < j
  · rw [if_pos (decide_eq_true h), show max i j = j by omega]
  · rw [if_neg (by simpa using h), show max i j = i by omega]
theorem cc_max (hc : X.calm = true) : CallR X (.builtin "max") rMaxC := ((call_max2 hc).or (call_max3Nu hc)).weak fun xs H Q h => by
  unfold rMaxC at h
  split at h
  · rename_i i j; exact .inl ⟨i, j, rfl, by rw [max_if]; exact h⟩
  · rename_i i j k
    refine .inr ⟨_, _, _, _, rfl, ?_, h⟩
    show (nuMax2 (.int i) (.int j)).bind _ = _
    rw [nuMax2_int, Option.bind_some, nuMax2_int]
  · exact h.elim
theorem cc_min (hc : X.calm = true) : CallR X (.builtin "min") rMinC := (call_min2 hc).weak fun xs H Q h => by
  unfold rMinC at h
  split at h
  · rename_i i j; exact ⟨i, j, rfl, by rw [min_if]; exact h⟩
  · exact h.elim
theorem cc_tuple {K : PySem.W.Frag} (hK : X.K = K := by rfl) : CallR X (.type "tuple") (rTupC K) := hK ▸ call_tuple_of.weak fun xs H Q h => by
  unfold rTupC at h
  split at h
  · obtain ⟨ys, h⟩ := h; exact ⟨_, ys, rfl, h⟩
  · exact h.elim
theorem cc_list {K : PySem.W.Frag} (hK : X.K = K := by rfl) : CallR X (.type "list") (rListC K) := hK ▸ call_list_of.weak fun xs H Q h => by
  unfold rListC at h
  split at h
  · obtain ⟨ys, h⟩ := h; exact ⟨_, ys, rfl, h⟩
  · exact h.elim
theorem cc_str : CallR X (.type "str") rStrC := call_str_int.weak fun xs H Q h => by
  unfold rStrC at h
  split at h
  · exact ⟨_, rfl, h⟩
  · exact h.elim
theorem cc_repr : CallR X (.builtin "repr") rStrC := SkE.call_repr_int.weak fun xs H Q h => by
  unfold rStrC at h
  split at h
  · exact ⟨_, rfl, h⟩
  · exact h.elim
end

/-! ### slices -/
def rSlC (K : PySem.W.Frag) : V → Option Int → Option Int → Hp → VK → Prop := fun x lo hi H Q => match x with
  | .ref a => rSlL K (.ref a) lo hi H Q ∨ rSlT K (.ref a) lo hi H Q
  | .str z => rSlS (.str z) lo hi H Q
  | _ => False
def tPartC (t : TE) : TO := fun σ H Q => t σ H fun x H1 => match x with | .int i => Q (some i) H1 | _ => False
section
variable {X : Cx} {e : Expr} {te : TE}
theorem sc_U {K : PySem.W.Frag} (hK : X.K = K := by rfl) : SlR X (rSlC K) := hK ▸ fun pins s σ H x v vl vu lo hi sl Q I rx h1 h2 h3 h => (sl_list.or (sl_tup.or sl_str)) pins s σ H x v vl vu lo hi sl Q I rx h1 h2 h3 (by
  cases x <;> first | exact False.elim h | skip
  · exact .inr (.inr h)
  · exact h.elim (fun h => .inl h) fun h => .inr (.inl h))
theorem poc {e : Expr} {te : TE} (h : PE X e te) : PO X (some e) (tPartC te) := ⟨fun pins s σ H Q I q => (po_some (e := e) (te := fun σ H Q => te σ H fun x H1 => match x with | .int i => Q (.int i) H1 | _ => False) ⟨fun pins s σ H Q I q => by
  refine thn (h.run pins s σ H _ I q) fun v s1 hv => ?_
  obtain ⟨x, H1, I1, r1, q1⟩ := hv
  cases x with
  | int k => exact ⟨_, H1, I1, r1, q1⟩
  | _ => exact q1.elim⟩).run pins s σ H Q I (by
    show te σ H _
    have q' : te σ H fun x H1 => match x with | .int i => Q (some i) H1 | _ => False := q
    have eq : (fun (x : V) (H1 : Hp) => match x with | .int i => Q (some i) H1 | _ => False) = (fun (x : V) (H1 : Hp) => match x with | .int k => (fun (x : V) (H' : Hp) => ∃ k, x = .int k ∧ Q (some k) H') (.int k) H1 | _ => False) := by
      funext x H1
      cases x with
      | int k => exact propext ⟨fun q => ⟨k, rfl, q⟩, fun ⟨k', e, q⟩ => by cases e; exact q⟩
      | _ => rfl
    rw [eq] at q'
    exact q')⟩
end

/-! ### what is walked -/
section
variable {X : Cx} {tg e : Expr} {te : TE}
theorem pic_seq {K : PySem.W.Frag} (h : PE X e te) (hK : X.K = K := by rfl) : PI X tg e (fun σ H R => iList K te σ H R ∨ iTup K te σ H R) := hK ▸ (pi_list h).or (pi_tup h)
theorem pic_rev {K : PySem.W.Frag} {p pos : Pos} (hg : Gl X "reversed") (hm : X.mg "reversed" = none) (he : PE X e te) (hK : X.K = K := by rfl) (hs : starEach [e] X.env = (false, eval e X.env) :: starEach [] X.env := by rfl) : PI X tg (.Call (.Name "reversed" p) [e] [] pos) (RT.iRevA K te) := hK ▸ RT.pi_revA hg hm he hs
end
theorem walk_revT {K : PySem.W.Frag} {a : Addr} {xs : List V} : Walk (RT.ItvT K a xs.length) xs.length (fun H => SqT K H a xs) (fun i H x H' => H' = H ∧ xs[xs.length - 1 - i]? = some x) :=
  ⟨fun i _ hi q => ⟨hi, xs, xs[xs.length - 1 - i]'(by omega), q, by simp [show xs.length - 1 - i < xs.length by omega]⟩, fun _ _ => Nat.le_refl _, fun _ _ _ _ _ q y => ⟨y.1, y.2 xs q⟩⟩

/-! ### methods of lists -/
def rAppC : V → List V → Hp → VK → Prop := fun x vs H Q => match x, vs with
  | .ref l, [y] => ∃ xs, H l = some (.lst xs) ∧ xs.length < sizeLine ∧ Q .non (upd H l (.lst (xs ++ [y])))
  | _, _ => False
def rExtC : V → List V → Hp → VK → Prop := fun x vs H Q => match x, vs with
  | .ref l, [.ref b] => ∃ xs zs, H l = some (.lst xs) ∧ H b = some (.lst zs) ∧ xs.length + zs.length ≤ sizeLine ∧ Q .non (upd H l (.lst (xs ++ zs)))
  | _, _ => False
def rPopC : V → List V → Hp → VK → Prop := fun x vs H Q => match x, vs with
  | .ref l, [.int i] => ∃ (xs : List V) (k : Nat) (y : V), H l = some (.lst xs) ∧ i = (k : Int) ∧ k < 2 ^ 62 ∧ xs[k]? = some y ∧ Q y (upd H l (.lst (xs.eraseIdx k)))
  | .ref l, [] => ∃ (xs : List V) (y : V), H l = some (.lst xs) ∧ xs[xs.length - 1]? = some y ∧ Q y (upd H l (.lst xs.dropLast))
  | _, _ => False
def rRevC : V → List V → Hp → VK → Prop := fun x vs H Q => match x, vs with
  | .ref l, [] => ∃ xs, H l = some (.lst xs) ∧ Q .non (upd H l (.lst xs.reverse))
  | _, _ => False
/-- the receiver is a list that may be read -/
def tLM (K : PySem.W.Frag) (r : V → List V → Hp → VK → Prop) (to : TE) (t : TA) : TE := fun σ H Q => to σ H fun x H1 => match x with
  | .ref l => (∃ xs, SqL K H1 l xs) ∧ t σ H1 fun vs H2 => r (.ref l) vs H2 Q
  | _ => False
section
variable {X : Cx}
theorem mc_append : MtR X "list.append" rAppC := MtR.weak (r := rAppend) mt_append fun x vs H Q h => by
  unfold rAppC at h
  split at h
  · obtain ⟨xs, h⟩ := h; exact ⟨_, xs, _, rfl, rfl, h⟩
  · exact h.elim
theorem mc_extend : MtR X "list.extend" rExtC := MtR.weak (r := rExtend) mt_extend fun x vs H Q h => by
  unfold rExtC at h
  split at h
  · obtain ⟨xs, zs, h⟩ := h; exact ⟨_, _, xs, zs, rfl, rfl, h⟩
  · exact h.elim
theorem seqIndex_nat {k n : Nat} (h : k < n) : seqIndex? (k : Int) n = some k := by
  have := (ixN_seq (n := n) (i := (k : Int)) (j := k) (by unfold ixN; rw [if_pos (by omega), if_pos (by omega)]; simp)).1
  exact this
theorem mc_pop : MtR X "list.pop" rPopC := MtR.weak (MtR.or (r := rPopAt) (r' := rPop) mt_popAt mt_pop) fun x vs H Q h => by
  unfold rPopC at h
  split at h
  · obtain ⟨xs, k, y, h1, rfl, h2, h3, q⟩ := h
    have hk := (List.getElem?_eq_some_iff.mp h3).1
    exact .inl ⟨_, xs, _, k, y, rfl, rfl, h1, by omega, by omega, seqIndex_nat hk, h3, q⟩
  · obtain ⟨xs, y, h⟩ := h; exact .inr ⟨_, xs, y, rfl, rfl, h⟩
  · exact h.elim
theorem mc_reverse : MtR X "list.reverse" rRevC := MtR.weak (r := rReverse) mt_reverse fun x vs H Q h => by
  unfold rRevC at h
  split at h
  · obtain ⟨xs, h⟩ := h; exact ⟨_, xs, rfl, rfl, h⟩
  · exact h.elim
theorem tLM_of {K : PySem.W.Frag} {r : V → List V → Hp → VK → Prop} {to : TE} {t : TA} {σ : St} {H : Hp} {Q : VK} (mono : ∀ P P' : VK, (∀ v H', P v H' → P' v H') → to σ H P → to σ H P') (h : tLM K r to t σ H Q) : tBM K "list" r to t σ H Q :=
  mono _ _ (fun x H' q => by
    cases x with
    | ref l => exact ⟨.inl ⟨rfl, q.1⟩, q.2⟩
    | _ => exact q.elim) h
end

/-! ### heaps -/
/-- all that was tracked, but what stands at a, is as it was -/
def SameB (a : Addr) (H H' : Hp) : Prop := ∀ b o, b ≠ a → H b = some o → H' b = some o
theorem SameB.refl {a : Addr} {H : Hp} : SameB a H H := fun _ _ _ h => h
theorem SameB.trans {a : Addr} {H H1 H2 : Hp} (x : SameB a H H1) (y : SameB a H1 H2) : SameB a H H2 := fun b o n h => y b o n (x b o n h)
theorem SameB.of {a : Addr} {H H' : Hp} (x : Same H H') : SameB a H H' := fun b o _ h => x b o h
theorem SameB.at {a : Addr} {H : Hp} {o : HO} : SameB a H (upd H a o) := fun b u n h => by rw [upd_ne n]; exact h
theorem upd_new {H : Hp} {a b : Addr} {o u : HO} (h : H b = some u) (hn : H a = none) : upd H a o b = some u := by rw [upd_ne (ne_of_none h hn)]; exact h
theorem upd_oth {H : Hp} {a b : Addr} {o u : HO} (hn : b ≠ a) (h : H b = some u) : upd H a o b = some u := by rw [upd_ne hn]; exact h
theorem Same.new {H : Hp} {a : Addr} {o : HO} (hn : H a = none) : Same H (upd H a o) := fun _ _ h => upd_new h hn
theorem SameB.new {a p : Addr} {H : Hp} {o : HO} (hn : H p = none) : SameB a H (upd H p o) := SameB.of (Same.new hn)
/-- a write to what was not there at the start -/
theorem SameB.wr {a p : Addr} {H H1 : Hp} {o : HO} (x : SameB a H H1) (hn : H p = none) : SameB a H (upd H1 p o) := fun b u n h => by
  rw [upd_ne (ne_of_none h hn)]; exact x b u n h
theorem SameB.ws {a : Addr} {H H1 : Hp} {o : HO} (x : SameB a H H1) : SameB a H (upd H1 a o) := fun b u n h => by
  rw [upd_ne n]; exact x b u n h
theorem Same.wr {p : Addr} {H H1 : Hp} {o : HO} (x : Same H H1) (hn : H p = none) : Same H (upd H1 p o) := fun b u h => by
  rw [upd_ne (ne_of_none h hn)]; exact x b u h
theorem SameB.free {a : Addr} {H H' : Hp} (e : SameB a H H') {l : Addr} (n : l ≠ a) (h : H' l = none) : H l = none := by
  cases q : H l with
  | none => rfl
  | some o => rw [e l o n q] at h; cases h
theorem SameB.seq {K : PySem.W.Frag} {s a : Addr} {H H' : Hp} {xs : List V} (e : SameB s H H') (n : a ≠ s) (h : SqL K H a xs) : SqL K H' a xs := by
  rcases h with (h | ⟨o, h⟩) | h
  · exact .inl (.inl (e _ _ n h))
  · exact .inl (.inr ⟨o, e _ _ n h⟩)
  · exact .inr h
theorem SameB.seqT {K : PySem.W.Frag} {s a : Addr} {H H' : Hp} {xs : List V} (e : SameB s H H') (n : a ≠ s) (h : SqT K H a xs) : SqT K H' a xs := by
  rcases h with (h | ⟨o, h⟩) | h
  · exact .inl (.inl (e _ _ n h))
  · exact .inl (.inr ⟨o, e _ _ n h⟩)
  · exact .inr h
theorem Same.seqT {K : PySem.W.Frag} {H H' : Hp} {a : Addr} {xs : List V} (e : Same H H') (h : SqT K H a xs) : SqT K H' a xs := by
  rcases h with (h | ⟨o, h⟩) | h
  · exact .inl (.inl (e _ _ h))
  · exact .inl (.inr ⟨o, e _ _ h⟩)
  · exact .inr h

theorem upd_none {H : Hp} {a p : Addr} {o : HO} (h : upd H a o p = none) : H p = none := by
  by_cases e : p = a
  · subst e; rw [upd_same] at h; cases h
  · rw [upd_ne e] at h; exact h
theorem upd_none_ne {H : Hp} {a p : Addr} {o : HO} (h : upd H a o p = none) : p ≠ a := by
  intro e; subst e; rw [upd_same] at h; cases h
theorem SameB.get {s b : Addr} {H H' : Hp} {o : HO} (e : SameB s H H') (n : b ≠ s) (h : H b = some o) : H' b = some o := e b o n h
theorem Same.get {b : Addr} {H H' : Hp} {o : HO} (e : Same H H') (h : H b = some o) : H' b = some o := e b o h
/-- what was not there, is not the source -/
theorem SameB.free' {a : Addr} {H H' : Hp} {xs : List V} (e : SameB a H H') (ha : H' a = some (.lst xs)) {l : Addr} (h : H' l = none) : H l = none := e.free (ne_of_none ha h).symm h

theorem Same.transB {s : Addr} {H H1 H2 : Hp} (x : Same H H1) (y : SameB s H1 H2) (hs : H s = none) : Same H H2 := fun b o h => y b o (ne_of_none h hs) (x b o h)

/-! ### slices of any list -/
def cutL {α : Type} (xs : List α) (lo hi : Option Int) : List α := (xs.drop (HT.sIx xs.length 0 lo)).take (HT.sIx xs.length xs.length hi - HT.sIx xs.length 0 lo)
theorem cutV_map {α : Type} (f : α → V) (xs : List α) (lo hi : Option Int) : cutV (xs.map f) lo hi = (cutL xs lo hi).map f := by
  unfold cutV cutL
  rw [List.length_map, List.map_take, List.map_drop]
theorem cutL_length {α : Type} (xs : List α) (lo hi : Option Int) : (cutL xs lo hi).length ≤ xs.length := by
  unfold cutL
  rw [List.length_take, List.length_drop]
  omega
theorem cutL_mem {α : Type} {xs : List α} {lo hi : Option Int} {x : α} (h : x ∈ cutL xs lo hi) : x ∈ xs := List.mem_of_mem_drop (List.mem_of_mem_take h)

theorem cut_two {α : Type} (xs : List α) {a b : Int} (ha : 0 ≤ a) (hb : 0 ≤ b) : (cutL xs none (some a)).length + (cutL xs (some (a + b)) none).length ≤ xs.length := by
  obtain ⟨i, rfl⟩ := Int.eq_ofNat_of_zero_le ha
  obtain ⟨j, rfl⟩ := Int.eq_ofNat_of_zero_le hb
  unfold cutL
  rw [← Int.natCast_add, HT.sIx_none, HT.sIx_none, HT.sIx_nat, HT.sIx_nat]
  simp only [List.length_take, List.length_drop]
  omega

/-! ### lists of texts, of ints -/
theorem dpAll_str {K : PySem.W.Frag} {H : Hp} : ∀ xs : List Str, DpAll K H (xs.map V.str) (xs.map PyData.str)
  | [] => .nil
  | x :: xs => .cons (.str x) (dpAll_str xs)
theorem dpAll_int {K : PySem.W.Frag} {H : Hp} : ∀ xs : List Int, DpAll K H (xs.map V.int) (xs.map PyData.int)
  | [] => .nil
  | x :: xs => .cons (.int x) (dpAll_int xs)
theorem dpAll_bl {K : PySem.W.Frag} {H : Hp} : ∀ xs : List Bool, DpAll K H (xs.map V.bl) (xs.map PyData.bool)
  | [] => .nil
  | x :: xs => .cons (.bl x) (dpAll_bl xs)
theorem str_len_app (a b : Str) : (a ++ b).length = a.length + b.length := by
  show (a.cps ++ b.cps).size = a.cps.size + b.cps.size
  exact Array.size_append
theorem atI_mem {α : Type} {xs : List α} {d : Int} (h0 : 0 ≤ d) (h1 : d < xs.length) : ∃ v, v ∈ xs ∧ atI xs d = some v := by
  obtain ⟨j, rfl⟩ := Int.eq_ofNat_of_zero_le h0
  have hj : j < xs.length := by omega
  exact ⟨xs[j], List.getElem_mem hj, atI_nat (List.getElem?_eq_getElem hj)⟩
theorem atI_strs {ls : List Str} {d : Int} (h0 : 0 ≤ d) (h1 : d < ls.length) : ∃ z, z ∈ ls ∧ atI (ls.map V.str) d = some (.str z) := by
  obtain ⟨j, rfl⟩ := Int.eq_ofNat_of_zero_le h0
  have hj : j < ls.length := by omega
  exact ⟨ls[j], List.getElem_mem hj, atI_nat (by rw [List.getElem?_map, List.getElem?_eq_getElem hj]; rfl)⟩
theorem atI_ints {ls : List Int} {d : Int} (h0 : 0 ≤ d) (h1 : d < ls.length) : ∃ z, z ∈ ls ∧ atI (ls.map V.int) d = some (.int z) := by
  obtain ⟨j, rfl⟩ := Int.eq_ofNat_of_zero_le h0
  have hj : j < ls.length := by omega
  exact ⟨ls[j], List.getElem_mem hj, atI_nat (by rw [List.getElem?_map, List.getElem?_eq_getElem hj]; rfl)⟩
theorem rep_flat (k : Nat) (x : V) : (List.replicate k [x]).flatten = List.replicate k x := by
  induction k with
  | zero => rfl
  | succ k ih => rw [List.replicate_succ, List.flatten_cons, ih, List.replicate_succ]; rfl
theorem atI_map {α : Type} {xs : List α} {f : α → V} {i : Int} {j : Nat} {x : α} (e : i = (j : Int)) (h : xs[j]? = some x) : atI (xs.map f) i = some (f x) := by
  subst e
  exact atI_nat (by rw [List.getElem?_map, h]; rfl)
theorem atI_of {xs : List V} {i : Int} {j : Nat} {x : V} (e : i = (j : Int)) (h : xs[j]? = some x) : atI xs i = some x := by
  subst e
  exact atI_nat h
theorem ixN_of {n : Nat} {i : Int} {j : Nat} (e : i = (j : Int)) (h : j < n) : ixN n i = some j := by
  subst e
  unfold ixN
  rw [if_pos (by omega), if_pos (by omega)]
  rfl
theorem str_len_num {v : Int} (h0 : 0 ≤ v) {k : Nat} (hk : 0 < k) (h : v < 10 ^ k) : (Str.ofString (toString v)).length ≤ k := toString_length_le h0 hk h

/-! ### pairs of lists -/
theorem prd_app {α β : Type} {F : α → β → Prop} : ∀ {l₁ m₁ : List α} {l₂ m₂ : List β}, Paired F l₁ l₂ → Paired F m₁ m₂ → Paired F (l₁ ++ m₁) (l₂ ++ m₂)
  | _, _, _, _, .nil, h => h
  | _, _, _, _, .cons r t, h => .cons r (prd_app t h)
theorem prd_get {α β : Type} {F : α → β → Prop} : ∀ {l₁ : List α} {l₂ : List β} {i : Nat} {a : α}, Paired F l₁ l₂ → l₁[i]? = some a → ∃ b, l₂[i]? = some b ∧ F a b
  | _, _, _, _, .nil, e => by simp at e
  | _, _, 0, _, .cons r _, e => by simp at e; subst e; exact ⟨_, rfl, r⟩
  | _, _, i + 1, a, .cons _ t, e => by
    obtain ⟨b, h1, h2⟩ := prd_get (i := i) (a := a) t (by simpa using e)
    exact ⟨b, by simpa using h1, h2⟩
theorem prd_map {α β γ : Type} {F : α → β → Prop} {G : α → γ → Prop} (g : β → γ) (h : ∀ a b, F a b → G a (g b)) : ∀ {l₁ : List α} {l₂ : List β}, Paired F l₁ l₂ → Paired G l₁ (l₂.map g)
  | _, _, .nil => .nil
  | _, _, .cons r t => .cons (h _ _ r) (prd_map g h t)
theorem prd_mono {α β : Type} {F G : α → β → Prop} (h : ∀ a b, F a b → G a b) : ∀ {l₁ : List α} {l₂ : List β}, Paired F l₁ l₂ → Paired G l₁ l₂
  | _, _, .nil => .nil
  | _, _, .cons r t => .cons (h _ _ r) (prd_mono h t)
theorem prd_mem {α β : Type} {F : α → β → Prop} : ∀ {l₁ : List α} {l₂ : List β} {a : α}, Paired F l₁ l₂ → a ∈ l₁ → ∃ b, b ∈ l₂ ∧ F a b
  | _, _, _, .nil, e => by cases e
  | _, _, a, .cons (a := a') (b := b') r t, e => by
    rcases List.mem_cons.mp e with h | h
    · subst h; exact ⟨b', List.mem_cons_self, r⟩
    · obtain ⟨b, h1, h2⟩ := prd_mem t h
      exact ⟨b, List.mem_cons_of_mem _ h1, h2⟩
/-- a list of lists of texts: their addresses, and what stands there -/
def LLs (H : Hp) (as : List Addr) (cs : List (List Str)) : Prop := Paired (fun a c => H a = some (.lst (c.map V.str))) as cs
theorem LLs.same {H H' : Hp} {as : List Addr} {cs : List (List Str)} (h : LLs H as cs) (e : Same H H') : LLs H' as cs := prd_mono (fun a _ q => e a _ q) h

/-! ### the law's source of numbers -/
/-- three ints: what is left of the digits, the mixed one, how many were drawn (at most k) -/
def SrcL (k : Nat) (xs : List V) : Prop := ∃ a b c : Int, xs = [.int a, .int b, .int c] ∧ 0 ≤ a ∧ 0 ≤ b ∧ b < 2 ^ 200 ∧ 0 ≤ c ∧ c ≤ (k : Int)
theorem SrcL.mono {k m : Nat} {xs : List V} (h : SrcL k xs) (hk : k ≤ m) : SrcL m xs := by
  obtain ⟨a, b, c, e, h1, h2, h3, h4, h5⟩ := h
  exact ⟨a, b, c, e, h1, h2, h3, h4, by omega⟩
/-- a draw: bounds, and the source with one more drawn -/
def spDraw : Sp := fun vs H Q _ => ∃ (s : Addr) (n : Int) (k : Nat) (xs : List V), vs = [.ref s, .int n] ∧ H s = some (.lst xs) ∧ SrcL k xs ∧ k < 2 ^ 60 ∧ 0 < n ∧ n < 2 ^ 200 ∧
  ∀ (d : Int) (ys : List V), 0 ≤ d → d < n → SrcL (k + 1) ys → Q (.int d) (upd H s (.lst ys))
/-- a new source -/
def spSource (K : PySem.W.Frag) : Sp := fun vs H Q _ => ∃ (a : Addr) (i : Int) (ns : List Int), vs = [.ref a, .int i] ∧ SqL K H a (ns.map V.int) ∧ ns.length ≤ 63 ∧ 0 ≤ i ∧ i < 2 ^ 60 ∧
  ∀ (p : Addr) (xs : List V), H p = none → SrcL 0 xs → Q (.ref p) (upd H p (.lst xs))
/-- the law: the script is a list of at most 63 ints, the answer is True -/
def spLaw (K : PySem.W.Frag) : Sp := fun vs H Q _ => ∃ (a : Addr) (ns : List Int), vs = [.ref a] ∧ SqL K H a (ns.map V.int) ∧ ns.length ≤ 63 ∧ ∀ H', Q (.bl true) H'
end L2

/-! super().m(..) within a method of the text: judgements at a known activation. -/
namespace L2
open PySem PySem.Spec PyProof.Rows

structure PEa (X : Cx) (c : Code) (e : Expr) (t : TE) : Prop where
  run : ∀ (pins : List (Addr × Obj)) (s : Shared) (σ : St) (H : Hp) (Q : VK), Inv X pins σ H s → t σ H Q → _root_.PySem.wpAt (model X.prog X.w) X.A c (eval e X.env) (EP X pins σ Q) X.xe s
structure PSa (X : Cx) (c : Code) (st : Stmt) (t : TS) : Prop where
  run : ∀ (pins : List (Addr × Obj)) (s : Shared) (σ : St) (H : Hp) (D : Ends), Inv X pins σ H s → t D σ H → _root_.PySem.wpAt (model X.prog X.w) X.A c (exec st X.env) (SP X pins D) X.xe s
structure PSsa (X : Cx) (c : Code) (st : List Stmt) (t : TS) : Prop where
  run : ∀ (pins : List (Addr × Obj)) (s : Shared) (σ : St) (H : Hp) (D : Ends), Inv X pins σ H s → t D σ H → _root_.PySem.wpAt (model X.prog X.w) X.A c (execs st X.env) (SP X pins D) X.xe s
section
variable {X : Cx} {c : Code} {e a b : Expr} {te ta tb : TE} {pos : Pos}
theorem PE.ata (h : PE X e te) : PEa X c e te := ⟨fun pins s σ H Q I q => PySem.wpAt_of_wpAny (h.run pins s σ H Q I q)⟩
theorem psa_ret (h : PEa X c e te) : PSa X c (.Return (some e) pos) (tRet te) := ⟨fun pins s σ H D I q =>
  ks_wpAt_Return_some (PySem.wpAt_mono (h.run pins s σ H _ I q) (fun v s1 ⟨x, H1, I1, r1, q1⟩ => ⟨x, σ, H1, I1, r1, q1⟩) fun _ _ z => z)⟩
theorem psa_expr (h : PEa X c e te) (hs : swapsWith e none pos.line X.env = pure false := by rfl) : PSa X c (.Expr e pos) (tDrop te) := ⟨fun pins s σ H D I q =>
  ks_wpAt_Expr_any (PySem.wpAt_mono (h.run pins s σ H _ I q) (fun v s1 ⟨x, H1, I1, r1, q1⟩ => ⟨σ, H1, I1, q1⟩) fun _ _ z => z) I.quiet hs⟩
theorem pea_op {op : Operator} {r : R2} (ho : OpR X (binaryOp op) r) (ha : PEa X c a ta) (hb : PE X b tb) : PEa X c (.BinOp a op b pos) (tOp r ta tb) := ⟨fun pins s σ H Q I q =>
  ks_wpAt_BinOp (PySem.wpAt_mono (ha.run pins s σ H _ I q) (fun v s1 ⟨x, H1, I1, r1, q1⟩ => thn (hb.run pins s1 σ H1 _ I1 q1) fun u s2 ⟨y, H2, I2, r2, q2⟩ => ho pins s2 σ H2 x y v u Q I2 r1 r2 q2) fun _ _ z => z)⟩
theorem pssa_cons {st : Stmt} {rest : List Stmt} {t u : TS} (h1 : PSa X c st t) (h2 : PSs X rest u) : PSsa X c (st :: rest) (tSeq t u) := ⟨fun pins s σ H D I q => by
  refine ks_wpAt_execs_cons (PySem.wpAt_mono (h1.run pins s σ H { D with nx := u D } I q) (fun f s1 q1 => ?_) fun _ _ z => z)
  cases f with
  | next =>
    obtain ⟨σ', H', I', q1⟩ := q1
    exact PySem.wpAt_of_wpAny (h2.run pins s1 σ' H' D I' q1)
  | ret v => exact q1
  | brk => exact q1
  | cont => exact q1⟩
theorem pssa_one {st : Stmt} {t : TS} (h1 : PSa X c st t) : PSsa X c [st] (tSeq t tNext) := pssa_cons h1 pss_nil
end

/-- a def's first parameter -/
def argOf (st : Stmt) : Arg := ((defArgs st).posonlyargs ++ (defArgs st).args).headD { arg := "", annotation := none, pos := ⟨0, 0, 0, 0⟩ }
/-- how the method m behind D, for an instance of C, is found -/
structure SupIn (K : PySem.W.Frag) (C D : Addr) (m : Str) (f2 : Addr) : Prop where
  sub : PySem.W.mroIn K C (.ref D) = some true
  sup : PySem.W.ks_superIn K C D m = some (some (.ref f2))
/-- what the text says of super in a method at f of the class D -/
structure SupTx (P : Program) (K : PySem.W.Frag) (mg : Str → Option Value) (f cda D : Addr) (file : Str) : Prop where
  code : ∃ (ccl : Value) (cdd : Option Addr) (vs : Array Value) (ccs : Array (Option Value)) (tf : Tok), K.lookup cda = some ⟨ccl, cdd, .fields vs, ccs⟩ ∧ vs[2]? = some (.str file tf)
  file : ((P.main.file : Str) == file) = true
  top : (P.main.scope.names.lookup ("super" : Str)).isSome = false
  mg : mg "super" = none
  cls : ∃ cd, PySem.W.clsIn K D = some cd
  any : PySem.W.nsIn K cStatics "thirdparty.any" = some none
def tSup (K : PySem.W.Frag) (D : Addr) (m : Str) (f2 : Addr) (j : Nat) (sp : Sp) (dvs : List V) (E : XK) (t : TA) : TE := fun σ H Q => ∃ x C dx fs, σ[0]? = some (some (.ref x)) ∧ σ[j]? = some (some (.ref D)) ∧ H x = some (.ins C dx fs) ∧ SupIn K C D m f2 ∧
  t σ H fun vs H1 => sp (.ref x :: vs ++ dvs) H1 Q E
section
variable {X : Cx} {CX : CXT} {k : Nat} {f C : Addr} {fd : FuncData} {ps : List Str} {sp : Sp} {dvs : List V} {ds : List Value} {E : XK} {x m : Str} {p pos apos : Pos} {e o : Expr} {es : List Expr} {ta : TE} {t : TA}
theorem run_fnC {pins : List (Addr × Obj)} {σ : St} {H : Hp} {s : Shared} {Q : VK} {us : List Value} {vs : List V} (F : FnOk X.prog X.w X.K X.mg X.base CX k f fd ps sp) (hr : Room k X.A) (hb : Binds X.K fd ps ds) (hd : Vals dvs ds) (hx : Passes CX X E)
    (I : Inv X pins σ H s) (r : Vals vs us) (h : sp (vs ++ dvs) H Q E) : codeAny (model X.prog X.w) X.A (.call (.ref f) ⟨us, []⟩) (wants (EP X pins σ Q) X.xe) s := by
  have r2 : Vals (vs ++ dvs) (us ++ ds) := r.append hd
  have hl : (us ++ ds).length = ps.length := by rw [← r2.length]; exact F.len _ _ _ _ h
  refine codeAny_mono (F.run X.A X.stack s H ⟨us, []⟩ (us ++ ds) (vs ++ dvs) Q E hr I.env0 (hb s us I.kIn hl) r2 h) fun r s' hq => ?_
  cases r with
  | error e => exact hx pins σ H s e s' I hq
  | ok fl =>
    cases fl with
    | ret u => exact I.after hq
    | next => exact False.elim hq
    | brk => exact False.elim hq
    | cont => exact False.elim hq
theorem ldn {A : Around} {E : Value → Shared → Prop} {pins : List (Addr × Obj)} {s : Shared} {σ : St} {H : Hp} {i : Nat} {y : Str} {v : V} {Q : Value → Shared → Prop} (I : Inv X pins σ H s) (hN : X.N[i]? = some y) (hv : Vis X.env.scope y) (e : σ[i]? = some (some v)) (hcd : (y == ("__classdict__" : Str)) = false)
    (h : ∀ u, RelV v u → Q u s) : wpAny (model X.prog X.w) A (loadName X.env y) Q E s := by
  obtain ⟨m, hn, hl⟩ := I.loc
  obtain ⟨u, r, l⟩ := hl i y v hN e hv
  rcases l with ⟨hk, hm⟩ | ⟨hk, c, hc, hcell⟩
  · exact wpAny_loadName_local I.ok.kind hk hn hm (h u r)
  · rcases hk with hk | hk
    · exact wpAny_loadName_cell I.ok.kind hk hc hcell (h u r)
    · exact wpAny_loadName_free I.ok.kind hk hc hcell (h u r) hcd
/-- the object of super, made -/
theorem sup_base {pins : List (Addr × Obj)} {s : Shared} {σ : St} {H : Hp} {body : List Stmt} {p0 p1 : Pos} {attr : Str} {whole : Sem Value} {g cda D x C dx : Addr} {gd : FuncData} {ar : Arg} {file : Str} {fs : List (Str × V)} {j : Nat} {oc : Value} {od : Option Addr} {osl : Array (Option Value)} {Q : Value → Shared → Prop} {E : Value → Shared → Prop}
    (I : Inv X pins σ H s) (T : SupTx X.prog X.K X.mg g cda D file) (hks : X.env.scope.names.lookup ("super" : Str) = some .globalImplicit) (hkc : X.env.scope.names.lookup ("__class__" : Str) = some .free) (hat : (attr == ("__class__" : Str)) = false)
    (hfu : X.env.func = some g) (hf : X.K.lookup g = some ⟨oc, od, .func gd, osl⟩) (hp : (gd.params.posonlyargs ++ gd.params.args).head? = some ar) (hco : X.env.code = .ref cda)
    (h0 : X.N[0]? = some ar.arg) (v0 : Vis X.env.scope ar.arg) (c0 : (ar.arg == ("__classdict__" : Str)) = false) (hj : X.N[j]? = some "__class__") (e0 : σ[0]? = some (some (.ref x))) (ej : σ[j]? = some (some (.ref D))) (ex : H x = some (.ins C dx fs)) (hs : PySem.W.mroIn X.K C (.ref D) = some true)
    (h : ∀ h', h'.get? s.heap.objs.size = some (PySem.W.ks_superObj D x C) → (∀ y o, s.heap.get? y = some o → h'.get? y = some o) → Q (.ref s.heap.objs.size) { s with heap := h' }) :
    _root_.PySem.wpAt (model X.prog X.w) X.A (.func body X.env) (attributeBase (.Call (.Name "super" p0) [] [] p1) attr X.env whole) Q E s := by
  obtain ⟨⟨ccl, cdd, vs, ccs, tf, hcode, hvs⟩, hfile, htop, hmg, ⟨cdD, hD⟩, hany⟩ := T
  have KX := I.kIn
  obtain ⟨oD, hD1, hD2⟩ : ∃ oD, s.heap.get? D = some oD ∧ oD.data = .cls cdD := by
    unfold PySem.W.clsIn at hD
    split at hD
    · rename_i c d cd' sl ho
      cases hD
      exact ⟨_, KX _ _ ho, rfl⟩
    · cases hD
  obtain ⟨mA, O, _⟩ := ins_get I.hok ex
  obtain ⟨odd, J, _⟩ := O.look
  refine ks_wpAt_super_base (env := X.env) hks hkc hat hfu (KX _ _ hf) rfl hp hco (KX _ _ hcode) rfl hvs hfile htop ?_
  obtain ⟨mb, hb1, hb2⟩ := I.mod.blt
  refine PySem.W.ks_loadName_global I.ok.kind hks (Calls.loadGlobal_builtin (by rw [I.ok.glob]; exact I.mod.glob.keeps I.bk) hmg (by rw [I.ok.blt]; exact hb1.keeps I.bk) ((hb2 _ (by decide +kernel)).trans (by decide +kernel)) ⟨rfl, ?_⟩)
  refine ldn I hj (.inr (.inr hkc)) ej (by decide) fun u ru => ?_
  obtain rfl : u = .ref D := ru
  refine ldn I h0 v0 e0 c0 fun u ru => ?_
  obtain rfl : u = .ref x := ru
  obtain ⟨hh, g', d', t', os'⟩ := s
  refine ks_wpAny_isType_cls hD1 hD2 ⟨rfl, ?_⟩
  refine ks_wpAny_call_super hD1 hD2 J.at_ J.cls (fun c e => ?_) (PySem.W.looks_mroIn KX hs) (fun h' e k => h h' e k)
  have := J.no
  unfold PySem.W.notCls at this
  rw [e] at this
  exact Bool.noConfusion this
/-- .. and its method, bound: what stands then -/
theorem sup_meth {pins : List (Addr × Obj)} {s : Shared} {σ : St} {H : Hp} {pl : Sem Bool} {f2 so D x C dx g cda : Addr} {file : Str} {fs : List (Str × V)} {A : Around} {Q : Value × List Value → Shared → Prop} {E : Value → Shared → Prop}
    (I : Inv X pins σ H s) (T : SupTx X.prog X.K X.mg g cda D file) (ex : H x = some (.ins C dx fs)) (hs : SupIn X.K C D m f2) (hf : PySem.W.isFn X.K (.ref f2) = true) (hn : (m == ("__class__" : Str)) = false) (hso : s.heap.get? so = some (PySem.W.ks_superObj D x C))
    (h : Q (.ref s.heap.objs.size, []) { s with heap := s.heap.push { cls := .type "method", data := .fields #[.ref f2, .ref x] }, toks := s.toks + 1 }) : wpAny (model X.prog X.w) A (getMethod (.ref so) m pl) Q E s := by
  have KX := I.kIn
  obtain ⟨mA, O, _⟩ := ins_get I.hok ex
  obtain ⟨odd, J, _⟩ := O.look
  have hm := hs.sup
  cases hc : PySem.W.clsIn X.K C with
  | none => unfold PySem.W.ks_superIn at hm; rw [hc] at hm; cases hm
  | some cd =>
    unfold PySem.W.ks_superIn at hm
    rw [hc] at hm
    obtain ⟨of, hof, hofc⟩ : ∃ of, s.heap.get? f2 = some of ∧ of.cls = .type "function" := by
      have ht' : (X.K.lookup f2).map (·.cls) = some (.type "function") := beq_iff_eq.mp hf
      cases z : X.K.lookup f2 with
      | none => rw [z] at ht'; cases ht'
      | some of => rw [z] at ht'; exact ⟨of, KX _ _ z, Option.some.inj ht'⟩
    obtain ⟨hh, g', d', t', os'⟩ := s
    refine ks_wpAny_getMethod_super hso (PySem.W.looks_opaque KX T.any) (l₀ := cd.mro) ?_ rfl KX hm hof hofc (PySem.W.ks_ne KX J hc) hn h
    exact fun A Q E s k q => wpAny_bind ((PySem.W.looks_clsIn KX hc) A _ E s k (wpAny_pure q))
/-- super().m() -/
theorem pea_super0 {pl : Sem Bool} {body : List Stmt} {p0 p1 : Pos} {g cda D f2 : Addr} {gd : FuncData} {ar : Arg} {file : Str} {j : Nat} {oc : Value} {od : Option Addr} {osl : Array (Option Value)}
    (T : SupTx X.prog X.K X.mg g cda D file) (hks : X.env.scope.names.lookup ("super" : Str) = some .globalImplicit) (hkc : X.env.scope.names.lookup ("__class__" : Str) = some .free) (hat : (m == ("__class__" : Str)) = false)
    (hfu : X.env.func = some g) (hg : X.K.lookup g = some ⟨oc, od, .func gd, osl⟩) (hp : (gd.params.posonlyargs ++ gd.params.args).head? = some ar) (hco : X.env.code = .ref cda)
    (h0 : X.N[0]? = some ar.arg) (v0 : Vis X.env.scope ar.arg) (c0 : (ar.arg == ("__classdict__" : Str)) = false) (hj : X.N[j]? = some "__class__")
    (F : FnOk X.prog X.w X.K X.mg X.base CX k f2 fd ps sp) (hr : Room k X.A) (hb : Binds X.K fd ps ds) (hd : Vals dvs ds) (hx : Passes CX X E) (hf : PySem.W.isFn X.K (.ref f2) = true) (hfn : PySem.W.fnIn X.K f2 = true)
    (he : eval (.Call (.Attribute (.Call (.Name "super" p0) [] [] p1) m apos) [] [] pos) X.env = (do
      let ov ← attributeBase (.Call (.Name "super" p0) [] [] p1) m X.env (eval (.Call (.Name "super" p0) [] [] p1) X.env)
      standAt apos.atName
      let (f, first) ← holding [ov] (getMethod ov m pl)
      callWith pos f first (backTo pos (starEach [] X.env)) []) := by rfl) :
    PEa X (.func body X.env) (.Call (.Attribute (.Call (.Name "super" p0) [] [] p1) m apos) [] [] pos) (tSup X.K D m f2 j sp dvs E tNil) := by
  refine ⟨fun pins s σ H Q I q => ?_⟩
  obtain ⟨x, C, dx, fs, e0, ej, ex, hs, q⟩ := q
  refine ks_wpAt_MethodCall (pl := pl) (sup_base I T hks hkc hat hfu hg hp hco h0 v0 c0 hj e0 ej ex hs.sub fun h' hso kp => ?_) he
  have I1 : Inv X pins σ H { s with heap := h' } := I.kept (t' := s.toks) kp
  refine sup_meth I1 T ex hs hf hat hso ?_
  have I2 : Inv X pins σ H { s with heap := h'.push { cls := .type "method", data := .fields #[.ref f2, .ref x] }, toks := s.toks + 1 } := I1.kept (t' := s.toks + 1) fun b o e => Heap.get?_push_of_some _ e
  have hmo : (h'.push { cls := .type "method", data := .fields #[.ref f2, .ref x] }).get? h'.objs.size = some (PySem.W.methodObj (.ref f2) (.ref x)) := Heap.get?_push_at rfl rfl
  refine PySem.W.callWith_M0 (K := X.K) ⟨hmo, I2.kIn⟩ hfn ?_
  refine wpAny_call (ks_codeAny_call_bound hmo ?_)
  exact run_fnC (us := [.ref x]) (vs := [.ref x]) F hr hb hd hx I2 (.cons rfl .nil) q
/-- super().m(e, ..) -/
theorem pea_super {pl : Sem Bool} {body : List Stmt} {p0 p1 : Pos} {g cda D f2 : Addr} {gd : FuncData} {ar : Arg} {file : Str} {j : Nat} {oc : Value} {od : Option Addr} {osl : Array (Option Value)}
    (T : SupTx X.prog X.K X.mg g cda D file) (hks : X.env.scope.names.lookup ("super" : Str) = some .globalImplicit) (hkc : X.env.scope.names.lookup ("__class__" : Str) = some .free) (hat : (m == ("__class__" : Str)) = false)
    (hfu : X.env.func = some g) (hg : X.K.lookup g = some ⟨oc, od, .func gd, osl⟩) (hp : (gd.params.posonlyargs ++ gd.params.args).head? = some ar) (hco : X.env.code = .ref cda)
    (h0 : X.N[0]? = some ar.arg) (v0 : Vis X.env.scope ar.arg) (c0 : (ar.arg == ("__classdict__" : Str)) = false) (hj : X.N[j]? = some "__class__")
    (F : FnOk X.prog X.w X.K X.mg X.base CX k f2 fd ps sp) (hr : Room k X.A) (hb : Binds X.K fd ps ds) (hd : Vals dvs ds) (hx : Passes CX X E) (hf : PySem.W.isFn X.K (.ref f2) = true) (hfn : PySem.W.fnIn X.K f2 = true) (ha : PA X (e :: es) t)
    (hst : starEach (e :: es) X.env = (false, eval e X.env) :: starEach es X.env := by rfl) (hpl : (backTo pos (starEach es X.env)).any (·.1) = false := by rfl)
    (he : eval (.Call (.Attribute (.Call (.Name "super" p0) [] [] p1) m apos) (e :: es) [] pos) X.env = (do
      let ov ← attributeBase (.Call (.Name "super" p0) [] [] p1) m X.env (eval (.Call (.Name "super" p0) [] [] p1) X.env)
      standAt apos.atName
      let (f, first) ← holding [ov] (getMethod ov m pl)
      callWith pos f first (backTo pos (starEach (e :: es) X.env)) []) := by rfl) :
    PEa X (.func body X.env) (.Call (.Attribute (.Call (.Name "super" p0) [] [] p1) m apos) (e :: es) [] pos) (tSup X.K D m f2 j sp dvs E t) := by
  refine ⟨fun pins s σ H Q I q => ?_⟩
  obtain ⟨x, C, dx, fs, e0, ej, ex, hs, q⟩ := q
  refine ks_wpAt_MethodCall (pl := pl) (sup_base I T hks hkc hat hfu hg hp hco h0 v0 c0 hj e0 ej ex hs.sub fun h' hso kp => ?_) he
  have I1 : Inv X pins σ H { s with heap := h' } := I.kept (t' := s.toks) kp
  refine sup_meth I1 T ex hs hf hat hso ?_
  have I2 : Inv X pins σ H { s with heap := h'.push { cls := .type "method", data := .fields #[.ref f2, .ref x] }, toks := s.toks + 1 } := I1.kept (t' := s.toks + 1) fun b o e => Heap.get?_push_of_some _ e
  have hmo : (h'.push { cls := .type "method", data := .fields #[.ref f2, .ref x] }).get? h'.objs.size = some (PySem.W.methodObj (.ref f2) (.ref x)) := Heap.get?_push_at rfl rfl
  have hfr : H h'.objs.size = none := I1.hok.fresh (Nat.le_refl _)
  have I3 : Inv X ((h'.objs.size, PySem.W.methodObj (.ref f2) (.ref x)) :: pins) σ H { s with heap := h'.push { cls := .type "method", data := .fields #[.ref f2, .ref x] }, toks := s.toks + 1 } := by
    refine I2.pins_of fun p hp => ?_
    rcases List.mem_cons.mp hp with rfl | hp
    · refine ⟨hmo, hfr, fun z => ?_, I1.nofs (Nat.le_refl _), fun v z => nomatch z⟩
      exact absurd I1.lt (by rw [← z]; exact Nat.lt_irrefl _)
    · exact I2.pin p (List.mem_append_right _ hp)
  have hcall := PySem.W.callWith_M (K := X.K) (pos := pos) (first := []) (h₀ := X.base) (L := X.env.locals) (news := [(h'.objs.size, PySem.W.methodObj (.ref f2) (.ref x))]) (q := h'.objs.size) (g := f2) (self := .ref x) (M := model X.prog X.w) (A := X.A) (E := X.xe) (Q := EP X pins σ Q) I.mod.kin (fun p hp => by
    obtain rfl := List.mem_singleton.mp hp
    refine ⟨hmo, fun z => absurd I1.lt (by rw [← z]; exact Nat.lt_irrefl _), ?_⟩
    cases z : X.base.get? h'.objs.size with
    | none => rfl
    | some o => exact absurd (Heap.lt_size (I1.bk _ _ z)) (Nat.lt_irrefl _)) List.mem_cons_self hfn (thn (ha.run pos _ _ σ H _ I3 q) fun us s2 ⟨vs, H2, I4, r, q2⟩ => ⟨⟨(I4.pin _ (List.mem_append_right _ List.mem_cons_self)).1, I4.kIn⟩, ?_⟩) hst hpl
  · exact hcall
  · have hm2 := (I4.pin (h'.objs.size, PySem.W.methodObj (.ref f2) (.ref x)) (List.mem_append_right _ List.mem_cons_self)).1
    refine wpAny_call (ks_codeAny_call_bound hm2 ?_)
    have I5 : Inv X pins σ H2 s2 := I4.pins_of fun p hp => I4.pin p (List.mem_append_right _ (List.mem_cons_of_mem _ hp))
    exact run_fnC (us := .ref x :: us) (vs := .ref x :: vs) F hr hb hd hx I5 (.cons rfl r) q2
end

/-! ### a method that names super -/
theorem look1 {y k : Str} {c d : Addr} (h : [(k, c)].lookup y = some d) : y = k ∧ d = c := by
  rw [List.lookup_cons] at h
  split at h
  · rename_i e
    exact ⟨eq_of_beq e, (Option.some.inj h).symm⟩
  · cases h
/-- the method st of the class at D, closed over __class__ -/
structure FunS (K : PySem.W.Frag) (x qual : Str) (st : Stmt) (f cda D : Addr) (fd : FuncData) : Prop where
  ex : ∃ (oc : Value) (od : Option Addr) (kV doc pm : Value) (an : Option Addr) (ct : Value) (osl : Array (Option Value)) (cc : Addr) (cl : Value) (cld : Option Addr) (csl : Array (Option Value)),
    fd = PySem.W.ksFn x qual (defArgs st) (defBody st) (defScope st) .none kV doc pm an (.ref cda) ct cc ∧ K.lookup f = some ⟨oc, od, .func fd, osl⟩ ∧ PySem.W.codeIn K (.ref cda) qual = true ∧ K.lookup cc = some ⟨cl, cld, .cell (some (.ref D)), csl⟩
  kp : PySem.W.keepIn K (.ref f) = true
section
variable {P : Program} {w : World} {K : PySem.W.Frag} {mg : Str → Option Value} {base : Heap} {CX : CXT}
abbrev nfOf (x qual : Str) (st : Stmt) (cda cc : Addr) : NdefX.NF := ⟨x, qual, defArgs st, defBody st, defScope st, [("__class__", cc)], cda⟩
theorem FunS.ok {x qual : Str} {st : Stmt} {f cda D : Addr} {fd : FuncData} {N ps : List Str} {k : Nat} {sp : Sp} (F : FunS K x qual st f cda D fd) (S : NdefX.NScope N ps ["__class__"] (defScope st)) (len : ∀ vs H Q E, sp vs H Q E → vs.length = ps.length)
    (hbody : ∀ (cc : Addr) (oc : Value) (od : Option Addr) (osl : Array (Option Value)) (A : Around) (outer : List Env) (s : Shared) (H : Hp) (vs : List V) (Q : VK) (E : XK), K.lookup f = some ⟨oc, od, .func fd, osl⟩ → fd.params = defArgs st →
      Room k (A.deeper (NdefX.envF (nfOf x qual st cda cc) f s.heap.objs.size)) → sp vs H Q E →
      ∃ t, PSsa (NdefX.ncx CX P w K mg base N (nfOf x qual st cda cc) f A outer s H E) (.func (defBody st) (NdefX.envF (nfOf x qual st cda cc) f s.heap.objs.size)) (defBody st) t ∧ t { nx := fun _ H' => Q .non H', rt := Q } (NdefX.startF N vs [some (.ref D)]) H) :
    FnOk P w K mg base CX (k + 1) f fd ps sp := by
  obtain ⟨oc, od, kV, doc, pm, an, ct, osl, cc, cl, cld, csl, rfl, lk, hcd, hcc⟩ := F.ex
  refine ⟨len, fun A outer s H args us vs Q E hr e0 hb r hsp => ?_⟩
  have hl := len _ _ _ _ hsp
  have KX : K.In s.heap := e0.mod.kin.keeps fun b o e => (e0.bs b o e).1
  have lim : s.heap.NoLimit := e0.mod.nolimit.keeps fun b o e => (e0.bs b o e).1
  refine ks_codeAny_call_defAt (binds := ps.zip us) hr.depth (KX _ _ lk) rfl lim (PySem.W.codeRec_of KX hcd) rfl hb S.nocell (fun y hy => S.par y.1 (List.of_mem_zip hy).1) (fun h₁ hns kp => ?_) S.co S.gen S.kind
  obtain ⟨t, ht, hq⟩ := hbody cc oc od osl A outer s H vs Q E lk rfl (hr.deeper _) hsp
  have C : NdefX.CellsAt [("__class__", cc)] ["__class__"] [some (V.ref D)] s.heap H := by
    have hcc' := KX _ _ hcc
    have hn : H cc = none := (e0.bs _ _ (e0.mod.kin _ _ hcc)).2
    refine ⟨rfl, fun y c e => ?_, fun y z c e1 e2 => ?_, fun i y hi => ?_⟩
    · obtain ⟨_, rfl⟩ := look1 e
      exact ⟨hn, _, _, hcc', rfl⟩
    · rw [(look1 e1).1, (look1 e2).1]
    · cases i with
      | zero =>
        have : y = "__class__" := by simpa using hi.symm
        subst this
        refine ⟨cc, by rw [List.lookup_cons, beq_self_eq_true], fun v hv => ?_⟩
        have : v = .ref D := by simpa using hv.symm
        subst this
        exact ⟨.ref D, rfl, _, hcc', rfl⟩
      | succ i => simp at hi
  have I : Inv (NdefX.ncx CX P w K mg base N (nfOf x qual st cda cc) f A outer s H E) [] (NdefX.startF N vs [some (V.ref D)]) H { s with heap := h₁, toks := s.toks + (ps.zip us).length } := NdefX.inv_startN (F := nfOf x qual st cda cc) S hr.hd e0 hl r C hns kp
  refine PySem.wpAt_mono (ht.run [] _ _ H _ I hq) (fun fl s' hs => ?_) fun e s' hs => hs
  have fin : ∀ {σ' : L2.St} {H' : Hp} {v : V} {u : Value}, Inv (NdefX.ncx CX P w K mg base N (nfOf x qual st cda cc) f A outer s H E) [] σ' H' s' → L2.RelV v u → Q v H' → CE outer P w H s Q u s' :=
    fun {σ' H' v u} J rv q => ⟨v, H', J.os, J.bare, J.base, J.hok, rv, q⟩
  cases fl with
  | ret u =>
    obtain ⟨v, σ', H', J, rv, q⟩ := hs
    exact fin J rv q
  | next =>
    obtain ⟨σ', H', J, q⟩ := hs
    exact fin (v := V.non) (u := Value.none) J rfl q
  | brk =>
    obtain ⟨_, _, _, q⟩ := hs
    exact False.elim q
  | cont =>
    obtain ⟨_, _, _, q⟩ := hs
    exact False.elim q
end
end L2

/-! == and != with both answers, where items are compared by an own __eq__. -/
namespace GB
open PySem PySem.SeqAt
open AutoSeq1 (wpAny_loadPart')
open MeetsSeq MeetsSeq2 MeetsSeq3 SeqRoads2
open GQ (FinOf)
section
variable {prog : Program} {w : World} {A : Around} {R : Result → Shared → Prop}
/-- the two lists read anew at each turn; the i-th two are equal as e says -/
def ListB (prog : Program) (w : World) (A : Around) (E : Value → Shared → Prop) (l b : Addr) (N : Nat) (e : Nat → Bool) (I : Shared → Prop) : Prop :=
  ∀ s, I s → ∃ (items items2 : Array Value) (n n2 : Nat), s.heap.get? l = some { cls := .type "list", data := .seq items n } ∧ s.heap.get? b = some { cls := .type "list", data := .seq items2 n2 } ∧ items.size = N ∧ items2.size = N ∧
    ∀ i (h1 : i < items.size) (h2 : i < items2.size), wpAny (model prog w) A.in1 (eqBool items[i] items2[i]) (fun r s' => r = e i ∧ I s') E s
theorem drop_range {N i : Nat} (h : i < N) : (List.range N).drop i = i :: (List.range N).drop (i + 1) := by simp [List.drop_eq_getElem_cons, h]
theorem eq_loopB (l b : Addr) (N : Nat) (e : Nat → Bool) (I : Shared → Prop) (hl : ListB prog w A (fun e s' => R (.error e) s') l b N e I) (k : Nat) :
    ∀ i : Nat, N - i = k → i ≤ N → ∀ s, I s → (∀ s, I s → R (.ok (.ret (.bool (((List.range N).drop i).all e)))) s) →
      wpAny (model prog w) A.in1 (Builtin.«list.__eq__.loop» ⟨[.ref l, .ref b, rawInt i, rawInt 2], []⟩) (FinOf prog w A R) (fun e s' => R (.error e) s') s := by
  induction k with
  | zero =>
    intro i hk hi s h fin
    obtain ⟨items, items2, n, n2, hl1, hb1, hs1, hs2, _⟩ := hl _ h
    have hi' : i = N := by omega
    have hR := fin s h
    rw [hi', List.drop_of_length_le (by simp)] at hR
    obtain ⟨hp, g, d, tk, os⟩ := s
    wp_walk using wpAny_loadPart' hl1, wpAny_loadPart' hb1
    have hi1 : items[((i : Nat) : Int).toNat]? = none := by simp; omega
    have hi2 : items2[((i : Nat) : Int).toNat]? = none := by simp; omega
    rw [hi1, hi2]
    wp_walk using wpAny_loadPart' hl1, wpAny_loadPart' hb1
    show R (.ok (.ret (.bool (items.size == items2.size)))) _
    rw [hs1, hs2]
    simpa using hR
  | succ k ih =>
    intro i hk hi s h fin
    obtain ⟨items, items2, n, n2, hl1, hb1, hs1, hs2, turn⟩ := hl _ h
    have hlt : i < items.size := by omega
    have hlt2 : i < items2.size := by omega
    have ht := turn i hlt hlt2
    rw [drop_range (show i < N by omega), List.all_cons] at fin
    obtain ⟨hp, g, d, tk, os⟩ := s
    wp_walk using wpAny_loadPart' hl1, wpAny_loadPart' hb1
    have hi1 : items[((i : Nat) : Int).toNat]? = some items[i] := by simp [hlt]
    have hi2 : items2[((i : Nat) : Int).toNat]? = some items2[i] := by simp [hlt2]
    have hc : ((i : Int) + 1) = ((i + 1 : Nat) : Int) := by omega
    rw [hi1, hi2]
    refine wpAny_bind (wpAny_mono ht (fun r s2 h2 => ?_) fun _ _ x => x)
    obtain ⟨hr, h2⟩ := h2
    subst hr
    cases he : e i with
    | true =>
      rw [he] at fin
      have hrec := ih (i + 1) (by omega) (by omega) s2 h2 (by simpa using fin)
      obtain ⟨hp2, g2, d2, tk2, os2⟩ := s2
      wp_walk
      rw [hc]
      exact ⟨plainId_quiet plain_eq_loop _, codeAny_builtin entry_eq_loop (by
        rw [Around.under_plainId plain_eq_loop _]
        exact hrec)⟩
    | false =>
      rw [he] at fin
      obtain ⟨items3, items4, n3, n4, hl2, hb2, hs3, hs4, _⟩ := hl _ h2
      have hR := fin _ h2
      have hj1 : items3[((i : Nat) : Int).toNat]? = some (items3[i]'(by omega)) := by simp [show i < items3.size by omega]
      have hj2 : items4[((i : Nat) : Int).toNat]? = some (items4[i]'(by omega)) := by simp [show i < items4.size by omega]
      obtain ⟨hp2, g2, d2, tk2, os2⟩ := s2
      wp_walk using wpAny_loadPart' hl2, wpAny_loadPart' hb2
      rw [hj1, hj2]
      wp_walk
      simpa using hR
theorem ne_loopB (l b : Addr) (N : Nat) (e : Nat → Bool) (I : Shared → Prop) (hl : ListB prog w A (fun e s' => R (.error e) s') l b N e I) (k : Nat) :
    ∀ i : Nat, N - i = k → i ≤ N → ∀ s, I s → (∀ s, I s → R (.ok (.ret (.bool (!((List.range N).drop i).all e)))) s) →
      wpAny (model prog w) A.in1 (Builtin.«list.__eq__.loop» ⟨[.ref l, .ref b, rawInt i, rawInt 3], []⟩) (FinOf prog w A R) (fun e s' => R (.error e) s') s := by
  induction k with
  | zero =>
    intro i hk hi s h fin
    obtain ⟨items, items2, n, n2, hl1, hb1, hs1, hs2, _⟩ := hl _ h
    have hi' : i = N := by omega
    have hR := fin s h
    rw [hi', List.drop_of_length_le (by simp)] at hR
    obtain ⟨hp, g, d, tk, os⟩ := s
    wp_walk using wpAny_loadPart' hl1, wpAny_loadPart' hb1
    have hi1 : items[((i : Nat) : Int).toNat]? = none := by simp; omega
    have hi2 : items2[((i : Nat) : Int).toNat]? = none := by simp; omega
    rw [hi1, hi2]
    wp_walk using wpAny_loadPart' hl1, wpAny_loadPart' hb1
    show R (.ok (.ret (.bool (items.size != items2.size)))) _
    rw [hs1, hs2]
    simpa using hR
  | succ k ih =>
    intro i hk hi s h fin
    obtain ⟨items, items2, n, n2, hl1, hb1, hs1, hs2, turn⟩ := hl _ h
    have hlt : i < items.size := by omega
    have hlt2 : i < items2.size := by omega
    have ht := turn i hlt hlt2
    rw [drop_range (show i < N by omega), List.all_cons] at fin
    obtain ⟨hp, g, d, tk, os⟩ := s
    wp_walk using wpAny_loadPart' hl1, wpAny_loadPart' hb1
    have hi1 : items[((i : Nat) : Int).toNat]? = some items[i] := by simp [hlt]
    have hi2 : items2[((i : Nat) : Int).toNat]? = some items2[i] := by simp [hlt2]
    have hc : ((i : Int) + 1) = ((i + 1 : Nat) : Int) := by omega
    rw [hi1, hi2]
    refine wpAny_bind (wpAny_mono ht (fun r s2 h2 => ?_) fun _ _ x => x)
    obtain ⟨hr, h2⟩ := h2
    subst hr
    cases he : e i with
    | true =>
      rw [he] at fin
      have hrec := ih (i + 1) (by omega) (by omega) s2 h2 (by simpa using fin)
      obtain ⟨hp2, g2, d2, tk2, os2⟩ := s2
      wp_walk
      rw [hc]
      exact ⟨plainId_quiet plain_eq_loop _, codeAny_builtin entry_eq_loop (by
        rw [Around.under_plainId plain_eq_loop _]
        exact hrec)⟩
    | false =>
      rw [he] at fin
      obtain ⟨items3, items4, n3, n4, hl2, hb2, hs3, hs4, _⟩ := hl _ h2
      have hR := fin _ h2
      have hj1 : items3[((i : Nat) : Int).toNat]? = some (items3[i]'(by omega)) := by simp [show i < items3.size by omega]
      have hj2 : items4[((i : Nat) : Int).toNat]? = some (items4[i]'(by omega)) := by simp [show i < items4.size by omega]
      obtain ⟨hp2, g2, d2, tk2, os2⟩ := s2
      wp_walk using wpAny_loadPart' hl2, wpAny_loadPart' hb2
      rw [hj1, hj2]
      wp_walk
      simpa using hR
theorem list_eqB (l b : Addr) (N : Nat) (e : Nat → Bool) (I : Shared → Prop) (hl : ListB prog w A (fun e s' => R (.error e) s') l b N e I)
    (fin : ∀ s, I s → R (.ok (.ret (.bool ((List.range N).all e)))) s) {s : Shared} (h : I s) :
    wpAny (model prog w) A.in1 (Builtin.«list.__eq__» ⟨[.ref l, .ref b], []⟩) (FinOf prog w A R) (fun e s' => R (.error e) s') s := by
  obtain ⟨items, items2, n, n2, hl1, hb1, hs1, hs2, _⟩ := hl _ h
  have hrec := eq_loopB (A := A) (R := R) l b N e I hl _ 0 rfl (Nat.zero_le _) s h (by simpa using fin)
  obtain ⟨hp, g, d, tk, os⟩ := s
  have f3 := AutoSeq1.sub_list_list
  have hne : ¬ (items.size != items2.size) = true := by simp [hs1, hs2]
  wp_walk using wpAny_loadPart' hl1, wpAny_loadPart' hb1
  exact ⟨plainId_quiet plain_eq_loop _, codeAny_builtin entry_eq_loop (by
    rw [Around.under_plainId plain_eq_loop _]
    exact hrec)⟩
theorem list_neB (l b : Addr) (N : Nat) (e : Nat → Bool) (I : Shared → Prop) (hl : ListB prog w A (fun e s' => R (.error e) s') l b N e I)
    (fin : ∀ s, I s → R (.ok (.ret (.bool (!(List.range N).all e)))) s) {s : Shared} (h : I s) :
    wpAny (model prog w) A.in1 (Builtin.«list.__ne__» ⟨[.ref l, .ref b], []⟩) (FinOf prog w A R) (fun e s' => R (.error e) s') s := by
  obtain ⟨items, items2, n, n2, hl1, hb1, hs1, hs2, _⟩ := hl _ h
  have hrec := ne_loopB (A := A) (R := R) l b N e I hl _ 0 rfl (Nat.zero_le _) s h (by simpa using fin)
  obtain ⟨hp, g, d, tk, os⟩ := s
  have f3 := AutoSeq1.sub_list_list
  have hne : ¬ (items.size != items2.size) = true := by simp [hs1, hs2]
  wp_walk using wpAny_loadPart' hl1, wpAny_loadPart' hb1
  exact ⟨plainId_quiet plain_eq_loop _, codeAny_builtin entry_eq_loop (by
    rw [Around.under_plainId plain_eq_loop _]
    exact hrec)⟩
theorem tuple_eqB (l b : Addr) (items items2 : Array Value) (n n2 : Nat) (dd dd2 : Option Addr) (sl sl2 : Array (Option Value)) (e : Nat → Bool) (I : Shared → Prop)
    (turn : ∀ i (h1 : i < items.size) (h2 : i < items2.size) s, I s → wpAny (model prog w) A.in1 (eqBool items[i] items2[i]) (fun r s' => r = e i ∧ I s') (fun e s' => R (.error e) s') s)
    (fin : ∀ s, I s → R (.ok (.ret (.bool ((List.range (min items.size items2.size)).all e && items.size == items2.size)))) s) {s : Shared} (hl1 : s.heap.get? l = some { cls := .type "tuple", dict := dd, data := .seq items n, slots := sl }) (hb1 : s.heap.get? b = some { cls := .type "tuple", dict := dd2, data := .seq items2 n2, slots := sl2 }) (h : I s) :
    wpAny (model prog w) A.in1 (Builtin.«tuple.__eq__» ⟨[.ref l, .ref b], []⟩) (FinOf prog w A R) (fun e s' => R (.error e) s') s := by
  have f2 := AutoSeq1.sub_tuple_tuple
  have hZ : (items.toList.zip items2.toList).length = min items.size items2.size := by simp
  have h0 := h
  obtain ⟨hp, g, d, tk, os⟩ := s
  wp_walk using wpAny_loadPart' hl1, wpAny_loadPart' hb1, wpAny_forIn_list _ (fun rest b s' => b.1 = none ∧ I s' ∧ ∃ i, rest = (items.toList.zip items2.toList).drop i ∧
    ∀ s, I s → R (.ok (.ret (.bool (((List.range (min items.size items2.size)).drop i).all e && items.size == items2.size)))) s) _
  case turn =>
    rintro ⟨y, x⟩ rest b s' ⟨hb', hI, i, hz, hR⟩
    have hlt : i < (items.toList.zip items2.toList).length := by
      rcases Nat.lt_or_ge i (items.toList.zip items2.toList).length with h' | h'
      · exact h'
      · rw [List.drop_of_length_le h'] at hz; cases hz
    have hm : i < min items.size items2.size := hZ ▸ hlt
    have h1 : i < items.size := Nat.lt_of_lt_of_le hm (Nat.min_le_left _ _)
    have h2 : i < items2.size := Nat.lt_of_lt_of_le hm (Nat.min_le_right _ _)
    rw [List.drop_eq_getElem_cons hlt] at hz
    injection hz with hyx hrest
    have hy : y = items[i] := by have := congrArg Prod.fst hyx; simpa using this
    have hx : x = items2[i] := by have := congrArg Prod.snd hyx; simpa using this
    subst hy hx
    rw [drop_range hm, List.all_cons] at hR
    refine wpAny_bind (wpAny_mono (turn i h1 h2 s' hI) (fun r s2 q2 => ?_) fun _ _ x => x)
    obtain ⟨hr, q2⟩ := q2
    subst hr
    cases he : e i with
    | true =>
      rw [he] at hR
      wp_walk
      exact ⟨rfl, q2, i + 1, hrest, by simpa using hR⟩
    | false =>
      rw [he] at hR
      have := hR _ q2
      wp_walk
      simpa using this
  case fin =>
    rintro ⟨b1, b2⟩ s' ⟨hb', hI, i, hz, hR⟩
    simp only at hb'
    subst hb'
    have hge : min items.size items2.size ≤ i := by
      rcases Nat.lt_or_ge i (items.toList.zip items2.toList).length with h' | h'
      · rw [List.drop_eq_getElem_cons h'] at hz; cases hz
      · exact hZ ▸ h'
    rw [List.drop_of_length_le (by simpa using hge)] at hR
    have := hR _ hI
    wp_walk
    simpa [Builtin.Tuple.tupleCompareSizes] using this
  case h =>
    exact ⟨rfl, h0, 0, rfl, by simpa using fin⟩
theorem tuple_neB (l b : Addr) (items items2 : Array Value) (n n2 : Nat) (dd dd2 : Option Addr) (sl sl2 : Array (Option Value)) (e : Nat → Bool) (I : Shared → Prop)
    (turn : ∀ i (h1 : i < items.size) (h2 : i < items2.size) s, I s → wpAny (model prog w) A.in1 (eqBool items[i] items2[i]) (fun r s' => r = e i ∧ I s') (fun e s' => R (.error e) s') s)
    (fin : ∀ s, I s → R (.ok (.ret (.bool (!((List.range (min items.size items2.size)).all e && items.size == items2.size))))) s) {s : Shared} (hl1 : s.heap.get? l = some { cls := .type "tuple", dict := dd, data := .seq items n, slots := sl }) (hb1 : s.heap.get? b = some { cls := .type "tuple", dict := dd2, data := .seq items2 n2, slots := sl2 }) (h : I s) :
    wpAny (model prog w) A.in1 (Builtin.«tuple.__ne__» ⟨[.ref l, .ref b], []⟩) (FinOf prog w A R) (fun e s' => R (.error e) s') s := by
  have f2 := AutoSeq1.sub_tuple_tuple
  have hZ : (items.toList.zip items2.toList).length = min items.size items2.size := by simp
  have h0 := h
  obtain ⟨hp, g, d, tk, os⟩ := s
  wp_walk using wpAny_loadPart' hl1, wpAny_loadPart' hb1, wpAny_forIn_list _ (fun rest b s' => b.1 = none ∧ I s' ∧ ∃ i, rest = (items.toList.zip items2.toList).drop i ∧
    ∀ s, I s → R (.ok (.ret (.bool (!(((List.range (min items.size items2.size)).drop i).all e && items.size == items2.size))))) s) _
  case turn =>
    rintro ⟨y, x⟩ rest b s' ⟨hb', hI, i, hz, hR⟩
    have hlt : i < (items.toList.zip items2.toList).length := by
      rcases Nat.lt_or_ge i (items.toList.zip items2.toList).length with h' | h'
      · exact h'
      · rw [List.drop_of_length_le h'] at hz; cases hz
    have hm : i < min items.size items2.size := hZ ▸ hlt
    have h1 : i < items.size := Nat.lt_of_lt_of_le hm (Nat.min_le_left _ _)
    have h2 : i < items2.size := Nat.lt_of_lt_of_le hm (Nat.min_le_right _ _)
    rw [List.drop_eq_getElem_cons hlt] at hz
    injection hz with hyx hrest
    have hy : y = items[i] := by have := congrArg Prod.fst hyx; simpa using this
    have hx : x = items2[i] := by have := congrArg Prod.snd hyx; simpa using this
    subst hy hx
    rw [drop_range hm, List.all_cons] at hR
    refine wpAny_bind (wpAny_mono (turn i h1 h2 s' hI) (fun r s2 q2 => ?_) fun _ _ x => x)
    obtain ⟨hr, q2⟩ := q2
    subst hr
    cases he : e i with
    | true =>
      rw [he] at hR
      wp_walk
      exact ⟨rfl, q2, i + 1, hrest, by simpa using hR⟩
    | false =>
      rw [he] at hR
      have := hR _ q2
      wp_walk
      simpa using this
  case fin =>
    rintro ⟨b1, b2⟩ s' ⟨hb', hI, i, hz, hR⟩
    simp only at hb'
    subst hb'
    have hge : min items.size items2.size ≤ i := by
      rcases Nat.lt_or_ge i (items.toList.zip items2.toList).length with h' | h'
      · rw [List.drop_eq_getElem_cons h'] at hz; cases hz
      · exact hZ ▸ h'
    rw [List.drop_of_length_le (by simpa using hge)] at hR
    have := hR _ hI
    wp_walk
    simpa [Builtin.Tuple.tupleCompareSizes, bne] using this
  case h =>
    exact ⟨rfl, h0, 0, rfl, by simpa using fin⟩
end
end GB

/-! == and != of own instances, of lists and tuples of such: judgements with both answers. -/
namespace GB
open PySem PySem.W
section
variable {prog : Program} {w : World} {A : Around} {E : Value → Shared → Prop} {s : Shared} {K : Frag} {x C f : Addr} {ox : Obj} {od : Option Obj} {b tb : Value}
/-- one side's __eq__ -/
theorem tc_eq {Q : Option Value → Shared → Prop} (X : K.In s.heap) (I : InstAt s.heap x ox C od) (hs : findIn K (.ref C) "__eq__" = some (some (.ref f))) (hf : isFn K (.ref f) = true)
    (h : wpAny (model prog w) A (call (.ref f) [.ref x, b]) (fun v s' => ∃ k, v = .bool k ∧ Q (some (.bool k)) s') E s) : wpAny (model prog w) A (tryCompare (.ref x) "__eq__" b) Q E s := by
  unfold tryCompare
  refine wpAny_bind (ifBound_K X I hs hf (wpAny_mono h (fun v s' hv => ?_) fun _ _ e => e))
  obtain ⟨k, rfl, q⟩ := hv
  exact wpAny_pure q
theorem ifBound_ne {Q : Option Value → Shared → Prop} (X : K.In s.heap) (I : InstAt s.heap x ox C od) (hs : findIn K (.ref C) "__ne__" = some (some (.builtin "object.__ne__")))
    (h : wpAny (model prog w) A (call (.builtin "object.__ne__") [.ref x, b]) (fun v => Q (some v)) E s) : wpAny (model prog w) A (callSpecialIfBound? (.ref x) "__ne__" [b]) Q E s := by
  simp only [callSpecialIfBound?, bindSpecialIfBound?]
  refine wpAny_holding (wpAny_bind (wpAny_bind (wpAny_bind (I.type.here ((looks_findIn X hs).here ?_)))))
  simp only [F.cmp_object.ne.bind]
  refine wpAny_bind (wpAny_askSetting (wpAny_ite ?_))
  have fin : wpAny (model prog w) A (call (.builtin "object.__ne__") ([.ref x] ++ [b]) >>= fun v => pure (some v)) Q E s := wpAny_bind (wpAny_mono h (fun v s' h' => wpAny_pure h') fun _ _ h' => h')
  split
  · exact wpAny_bind (wpAny_pure (wpAny_pure fin))
  · exact wpAny_tryCatch (wpAny_bind (wpAny_pure (wpAny_pure fin)))
theorem objNe_own {Q : Fin → Shared → Prop} (X : K.In s.heap) (I : InstAt s.heap x ox C od) (hs : findIn K (.ref C) "__eq__" = some (some (.ref f))) (hf : isFn K (.ref f) = true) (hu : A.units < cLine)
    (h : wpAny (model prog w) A (call (.ref f) [.ref x, b]) (fun v s' => ∃ k, v = .bool k ∧ Q (.done (.ret (.bool (!k)))) s') E s) :
    wpAny (model prog w) A (Builtin.«object.__ne__» ⟨[.ref x, b], []⟩) Q E s := by
  unfold Builtin.«object.__ne__»
  repeat (first
    | with_reducible refine wpAny_cRoomFor hu ?_
    | (refine wpAny_bind (m := callSpecialIfBound? (.ref x) (Str.ofString "__eq__") [b])
        (ifBound_K X I hs hf (wpAny_mono h (fun r s' hr => by
          obtain ⟨b, rfl, hq⟩ := hr
          repeat (first | exact hq | exact wpAny_pure hq | exact wpAny_truthy_bool hq | (refine wpAny_bind (m := truthy (.bool _)) (wpAny_truthy_bool ?_)) | wp_step)) fun _ _ e => e)))
    | wp_step)
/-- one side's __ne__, object's own, by __eq__ -/
theorem tc_ne {Q : Option Value → Shared → Prop} (X : K.In s.heap) (I : InstAt s.heap x ox C od) (hs : findIn K (.ref C) "__eq__" = some (some (.ref f))) (hf : isFn K (.ref f) = true)
    (hn : findIn K (.ref C) "__ne__" = some (some (.builtin "object.__ne__"))) (hm : mroIn K C (.type "object") = some true) (hu : A.in1.units < cLine)
    (h : wpAny (model prog w) A.in1 (call (.ref f) [.ref x, b]) (fun v s' => ∃ k, v = .bool k ∧ Q (some (.bool (!k))) s') E s) : wpAny (model prog w) A (tryCompare (.ref x) "__ne__" b) Q E s := by
  unfold tryCompare
  have sub : Looks (model prog w) s.heap (isInstance (.ref x) (.type "object")) true := I.type.andThen (looks_mroIn X hm)
  refine wpAny_bind (ifBound_ne X I hn (wpAny_call (codeAny_call_builtin F.cmp_object.ne.plain F.cmpEntry_ne (check_slot F.cmpKind_ne F.cmpSplit_ne sub (F.cmpArgs_ne _ _) ?_))))
  refine objNe_own (A := A.in1) X I hs hf hu (wpAny_mono h (fun v s' hv => ?_) fun _ _ e => e)
  obtain ⟨k, rfl, q⟩ := hv
  first | exact ⟨k, rfl, wpAny_pure q⟩ | exact ⟨k, rfl, wpAny_pure (wpAny_pure q)⟩ | exact ⟨k, rfl, q⟩
/-- the left side is asked first -/
theorem rc_left {op : CmpOp} {Q : Value → Shared → Prop} (hu : A.units < cLine) (X : K.In s.heap) (I : InstAt s.heap x ox C od) (hb : Looks (model prog w) s.heap (typeOf b) tb) (hn : notFirst K C tb = true)
    (one : wpAny (model prog w) A (tryCompare (.ref x) (cmpInfo op).2.1 b) (fun r s' => ∃ v, r = some v ∧ Q v s') E s) : wpAny (model prog w) A (richCompare op (.ref x) b) Q E s := by
  unfold richCompare
  simp only [oneThing_ref]
  refine wpAny_holding (wpAny_bind (wpAny_cRoomFor hu ?_))
  refine wpAny_bind (I.type.here (wpAny_bind (hb.here ?_)))
  split
  · rename_i q
    have e : subIn K tb (.ref C) = some false := by
      rcases Bool.or_eq_true_iff.mp hn with e | e
      · rw [beq_iff_eq.mp e] at q; simp at q
      · exact beq_iff_eq.mp e
    refine wpAny_bind ((looks_subIn X e).here ?_)
    simp only [Bool.false_eq_true, if_false]
    refine wpAny_bind (wpAny_mono one (fun r s' z => ?_) fun _ _ e => e)
    obtain ⟨v, rfl, hq⟩ := z
    exact wpAny_pure hq
  · refine wpAny_bind (wpAny_pure ?_)
    simp only [Bool.false_eq_true, if_false]
    refine wpAny_bind (wpAny_mono one (fun r s' z => ?_) fun _ _ e => e)
    obtain ⟨v, rfl, hq⟩ := z
    exact wpAny_pure hq
/-- the right side's class is below the left one's: it is asked first -/
theorem rc_right {op : CmpOp} {Q : Value → Shared → Prop} {y D : Addr} {oy : Obj} {ody : Option Obj} (hu : A.units < cLine) (X : K.In s.heap) (I : InstAt s.heap x ox C od) (J : InstAt s.heap y oy D ody) (hne : D ≠ C) (hsub : mroIn K D (.ref C) = some true)
    (one : wpAny (model prog w) A (tryCompare (.ref y) (cmpInfo op).2.2 (.ref x)) (fun r s' => ∃ v, r = some v ∧ Q v s') E s) : wpAny (model prog w) A (richCompare op (.ref x) (.ref y)) Q E s := by
  unfold richCompare
  simp only [oneThing_ref]
  refine wpAny_holding (wpAny_bind (wpAny_cRoomFor hu ?_))
  refine wpAny_bind (I.type.here (wpAny_bind (J.type.here ?_)))
  have e : (Value.ref C != Value.ref D) = true := by simp [Ne.symm hne]
  rw [if_pos e]
  refine wpAny_bind ((looks_subIn (t := .ref D) X hsub).here ?_)
  simp only [if_true]
  refine wpAny_bind (wpAny_mono one (fun r s' z => ?_) fun _ _ e => e)
  obtain ⟨v, rfl, hq⟩ := z
  repeat (first | exact hq | exact wpAny_pure hq | wp_step)
end
end GB

namespace L2
open PySem PySem.Spec PyProof.Rows
/-- how two values are seen to be equal or not, by the abstract heap -/
abbrev EqvB := V → V → Hp → Bool → Prop
def MonB (D : EqvB) : Prop := ∀ x y H H' b, Ext H H' → D x y H b → D x y H' b
def EqB (X : Cx) (n : Nat) (D : EqvB) : Prop :=
  ∀ (A : Around) (pins : List (Addr × Obj)) (s : Shared) (σ : St) (H : Hp) (x y : V) (u v : Value) (b : Bool), Sub X n A → Inv X pins σ H s → RelV x u → RelV y v → D x y H b →
    wpAny (model X.prog X.w) A (eqBool u v) (fun r s' => r = b ∧ ∃ H', Inv X pins σ H' s' ∧ Ext H H') X.xe s
/-- ne = false: ==; ne = true: != -/
def opOf (ne : Bool) : CmpOp := if ne then .NotEq else .Eq
def RcB (X : Cx) (n : Nat) (ne : Bool) (D : EqvB) : Prop :=
  ∀ (A : Around) (pins : List (Addr × Obj)) (s : Shared) (σ : St) (H : Hp) (x y : V) (u v : Value) (b : Bool), Sub X n A → Inv X pins σ H s → RelV x u → RelV y v → D x y H b →
    wpAny (model X.prog X.w) A (richCompare (opOf ne) u v) (fun r s' => r = .bool (ne != b) ∧ ∃ H', Inv X pins σ H' s' ∧ Ext H H') X.xe s
section
variable {X : Cx} {n m : Nat} {ne : Bool} {D D' : EqvB}
theorem EqB.mono (h : EqB X n D) (hn : n ≤ m) : EqB X m D := fun A pins s σ H x y u v b sb => h A pins s σ H x y u v b (sb.mono hn)
theorem RcB.mono (h : RcB X n ne D) (hn : n ≤ m) : RcB X m ne D := fun A pins s σ H x y u v b sb => h A pins s σ H x y u v b (sb.mono hn)
theorem EqB.or (h : EqB X n D) (h' : EqB X n D') : EqB X n (fun x y H b => D x y H b ∨ D' x y H b) := fun A pins s σ H x y u v b sb I rx ry d => by
  rcases d with d | d
  · exact h A pins s σ H x y u v b sb I rx ry d
  · exact h' A pins s σ H x y u v b sb I rx ry d
theorem RcB.or (h : RcB X n ne D) (h' : RcB X n ne D') : RcB X n ne (fun x y H b => D x y H b ∨ D' x y H b) := fun A pins s σ H x y u v b sb I rx ry d => by
  rcases d with d | d
  · exact h A pins s σ H x y u v b sb I rx ry d
  · exact h' A pins s σ H x y u v b sb I rx ry d
theorem RcB.imp (h : RcB X n ne D) (hd : ∀ x y H b, D' x y H b → D x y H b) : RcB X n ne D' := fun A pins s σ H x y u v b sb I rx ry d => h A pins s σ H x y u v b sb I rx ry (hd x y H b d)
theorem MonB.or (h : MonB D) (h' : MonB D') : MonB (fun x y H b => D x y H b ∨ D' x y H b) := fun x y H H' b e d => d.elim (fun d => .inl (h x y H H' b e d)) fun d => .inr (h' x y H H' b e d)
/-- flat values -/
def DFl : EqvB := fun x y _ b => flatV x = true ∧ flatV y = true ∧ b = eqV x y
theorem monB_flat : MonB DFl := fun _ _ _ _ _ _ d => d
theorem eqB_flat : EqB X 0 DFl := by
  intro A pins s σ H x y u v b sb I rx ry d
  obtain ⟨fx, fy, rfl⟩ := d
  exact eqAt_V (A := A) (s := s) rx ry fx fy X.prog X.w X.xe _ ⟨rfl, H, I, Ext.rfl'⟩
/-- item by item, as e says -/
def PrsB (D : EqvB) (xs ys : List V) (H : Hp) (e : Nat → Bool) : Prop := ∀ (i : Nat) x y, xs[i]? = some x → ys[i]? = some y → D x y H (e i)
theorem PrsB.mon (hD : MonB D) {xs ys : List V} {H H' : Hp} {e : Nat → Bool} (x : Ext H H') (p : PrsB D xs ys H e) : PrsB D xs ys H' e := fun i a b h1 h2 => hD a b H H' _ x (p i a b h1 h2)
theorem turnB (hD : MonB D) (h : EqB X n D) {A : Around} (sb : Sub X (n + 1) A) {pins : List (Addr × Obj)} {σ : St} {H : Hp} {xs ys : List V} {e : Nat → Bool} {its its2 : List Value} (p : PrsB D xs ys H e) (r : Vals xs its) (r2 : Vals ys its2)
    (i : Nat) (h1 : i < its.toArray.size) (h2 : i < its2.toArray.size) (s' : Shared) (l : LoopI X pins σ H s') :
    wpAny (model X.prog X.w) A.in1 (eqBool its.toArray[i] its2.toArray[i]) (fun r s2 => r = e i ∧ LoopI X pins σ H s2) X.xe s' := by
  obtain ⟨H1, I1, e1⟩ := l
  have g1 : its[i]? = some its.toArray[i] := by
    have h1' : i < its.length := by simpa using h1
    rw [List.getElem?_eq_getElem h1'] <;> simp
  have g2 : its2[i]? = some its2.toArray[i] := by
    have h2' : i < its2.length := by simpa using h2
    rw [List.getElem?_eq_getElem h2'] <;> simp
  have k1 : i < xs.length := by rw [r.length]; simpa using h1
  have k2 : i < ys.length := by rw [r2.length]; simpa using h2
  obtain ⟨u, hu, ru⟩ := r.get (List.getElem?_eq_getElem k1)
  obtain ⟨v, hv, rv⟩ := r2.get (List.getElem?_eq_getElem k2)
  rw [g1] at hu
  rw [g2] at hv
  rw [Option.some.inj hu, Option.some.inj hv]
  refine wpAny_mono (h A.in1 pins s' σ H1 _ _ u v _ sb.in1 I1 ru rv (hD _ _ _ _ _ e1 (p i _ _ (List.getElem?_eq_getElem k1) (List.getElem?_eq_getElem k2)))) (fun r s2 q => ?_) fun _ _ x => x
  obtain ⟨hr, H2, I2, e2⟩ := q
  exact ⟨hr, H2, I2, e1.trans e2⟩
/-- two lists of one length; two tuples -/
def DLs (D : EqvB) : EqvB := fun x y H b => ∃ a c xs ys e, x = .ref a ∧ y = .ref c ∧ H a = some (.lst xs) ∧ H c = some (.lst ys) ∧ xs.length = ys.length ∧ PrsB D xs ys H e ∧ b = (List.range xs.length).all e
def DTp (K : PySem.W.Frag) (D : EqvB) : EqvB := fun x y H b => ∃ a c xs ys e, x = .ref a ∧ y = .ref c ∧ SqT K H a xs ∧ SqT K H c ys ∧ PrsB D xs ys H e ∧ b = ((List.range (min xs.length ys.length)).all e && xs.length == ys.length)
theorem monB_list (hD : MonB D) : MonB (DLs D) := fun x y H H' b ex d => by
  obtain ⟨a, c, xs, ys, e, hx, hy, h1, h2, hl, p, hb⟩ := d
  exact ⟨a, c, xs, ys, e, hx, hy, ex _ _ h1, ex _ _ h2, hl, p.mon hD ex, hb⟩
theorem monB_tup {K : PySem.W.Frag} (hD : MonB D) : MonB (DTp K D) := fun x y H H' b ex d => by
  obtain ⟨a, c, xs, ys, e, hx, hy, h1, h2, p, hb⟩ := d
  exact ⟨a, c, xs, ys, e, hx, hy, h1.ext ex, h2.ext ex, p.mon hD ex, hb⟩
theorem rcB_list (hD : MonB D) (h : EqB X n D) : RcB X (n + 1) ne (DLs D) := by
  intro A pins s σ H x y u v b sb I rx ry d
  obtain ⟨a, c, xs, ys, e, rfl, rfl, ha, hb, hl, p, rfl⟩ := d
  cases rx
  cases ry
  have hL : GB.ListB X.prog X.w A X.xe a c xs.length e (LoopI X pins σ H) := fun s' q => by
    obtain ⟨H1, I1, e1⟩ := id q
    obtain ⟨z, its, k, r, g⟩ := I1.hok a _ (e1 _ _ ha)
    obtain ⟨z2, its2, k2, r2, g2⟩ := I1.hok c _ (e1 _ _ hb)
    exact ⟨its.toArray, its2.toArray, k, k2, g, g2, by rw [List.size_toArray, ← r.length], by rw [List.size_toArray, ← r2.length, ← hl], fun i h1 h2 => turnB hD h sb p r r2 i h1 h2 s' q⟩
  obtain ⟨items, items2, n1, n2, hl1, hb1, _, _, _⟩ := hL s ⟨H, I, Ext.rfl'⟩
  cases ne with
  | false =>
    refine wpAny_richCompare_same_room (op := .Eq) ⟨_, hl1, rfl⟩ ⟨_, hb1, rfl⟩ F.slot_list_eq (GQ.call_here F.slot_list_eq ⟨_, hl1, rfl⟩ F.entry_list_eq (F.args_list_eq_2 _ _) ?_) sb.room.units0
    refine GB.list_eqB (R := wants (fun v s' => v ≠ .notImplemented ∧ v = .bool (false != (List.range xs.length).all e) ∧ ∃ H', Inv X pins σ H' s' ∧ Ext H H') X.xe) a c xs.length e (LoopI X pins σ H) hL (fun s' q => ⟨(fun z => nomatch z), by simp, q⟩) ⟨H, I, Ext.rfl'⟩
  | true =>
    refine wpAny_richCompare_same_room (op := .NotEq) ⟨_, hl1, rfl⟩ ⟨_, hb1, rfl⟩ F.slot_list_ne (GQ.call_here F.slot_list_ne ⟨_, hl1, rfl⟩ F.entry_list_ne (F.args_list_ne_2 _ _) ?_) sb.room.units0
    refine GB.list_neB (R := wants (fun v s' => v ≠ .notImplemented ∧ v = .bool (true != (List.range xs.length).all e) ∧ ∃ H', Inv X pins σ H' s' ∧ Ext H H') X.xe) a c xs.length e (LoopI X pins σ H) hL (fun s' q => ⟨(fun z => nomatch z), by cases (List.range xs.length).all e <;> rfl, q⟩) ⟨H, I, Ext.rfl'⟩
theorem rcB_tup (hD : MonB D) (h : EqB X n D) : RcB X (n + 1) ne (DTp X.K D) := by
  intro A pins s σ H x y u v b sb I rx ry d
  obtain ⟨a, c, xs, ys, e, rfl, rfl, ha, hb, p, rfl⟩ := d
  cases rx
  cases ry
  obtain ⟨its, r, g, z⟩ := I.tuple ha
  obtain ⟨its2, r2, g2, z2⟩ := I.tuple hb
  obtain ⟨⟨cls, dd, data, sl⟩, ho, hc, k, hd⟩ := id g
  obtain ⟨⟨cls2, dd2, data2, sl2⟩, ho2, hc2, k2, hd2⟩ := id g2
  simp only at hc hd hc2 hd2
  subst hc hd hc2 hd2
  have s1 : its.toArray.size = xs.length := by rw [List.size_toArray, ← r.length]
  have s2 : its2.toArray.size = ys.length := by rw [List.size_toArray, ← r2.length]
  cases ne with
  | false =>
    refine wpAny_richCompare_same_room (op := .Eq) ⟨_, ho, rfl⟩ ⟨_, ho2, rfl⟩ F.slot_tuple_eq (GQ.call_here F.slot_tuple_eq ⟨_, ho, rfl⟩ F.entry_tuple_eq (F.args_tuple_eq_2 _ _) ?_) sb.room.units0
    refine GB.tuple_eqB (R := wants (fun v s' => v ≠ .notImplemented ∧ v = .bool (false != ((List.range (min xs.length ys.length)).all e && xs.length == ys.length)) ∧ ∃ H', Inv X pins σ H' s' ∧ Ext H H') X.xe) a c its.toArray its2.toArray k k2 dd dd2 sl sl2 e (LoopI X pins σ H)
      (fun i h1 h2 s' q => turnB hD h sb p r r2 i h1 h2 s' q) (fun s' q => ⟨(fun z => nomatch z), by rw [s1, s2]; simp, q⟩) ho ho2 ⟨H, I, Ext.rfl'⟩
  | true =>
    refine wpAny_richCompare_same_room (op := .NotEq) ⟨_, ho, rfl⟩ ⟨_, ho2, rfl⟩ F.slot_tuple_ne (GQ.call_here F.slot_tuple_ne ⟨_, ho, rfl⟩ F.entry_tuple_ne (F.args_tuple_ne_2 _ _) ?_) sb.room.units0
    refine GB.tuple_neB (R := wants (fun v s' => v ≠ .notImplemented ∧ v = .bool (true != ((List.range (min xs.length ys.length)).all e && xs.length == ys.length)) ∧ ∃ H', Inv X pins σ H' s' ∧ Ext H H') X.xe) a c its.toArray its2.toArray k k2 dd dd2 sl sl2 e (LoopI X pins σ H)
      (fun i h1 h2 s' q => turnB hD h sb p r r2 i h1 h2 s' q) (fun s' q => ⟨(fun z => nomatch z), by rw [s1, s2]; cases ((List.range (min xs.length ys.length)).all e && xs.length == ys.length) <;> rfl, q⟩) ho ho2 ⟨H, I, Ext.rfl'⟩

/-- the type of the other side -/
inductive TyY (H : Hp) : V → Value → Prop where
  | non : TyY H .non (.type "NoneType")
  | bl (x : Bool) : TyY H (.bl x) (.type "bool")
  | int (i : Int) : TyY H (.int i) (.type "int")
  | str (x : Str) : TyY H (.str x) (.type "str")
  | tup {a : Addr} {xs : List V} (e : H a = some (.tup xs)) : TyY H (.ref a) (.type "tuple")
  | lst {a : Addr} {xs : List V} (e : H a = some (.lst xs)) : TyY H (.ref a) (.type "list")
  | dK {a : Addr} {kvs : List (Key × V)} (e : H a = some (.dK kvs)) : TyY H (.ref a) (.type "dict")
  | ins {a C dx : Addr} {fs : List (Str × V)} (e : H a = some (.ins C dx fs)) : TyY H (.ref a) (.ref C)
theorem TyY.mon {H H' : Hp} {y : V} {t : Value} (e : Ext H H') (h : TyY H y t) : TyY H' y t := by
  cases h with
  | non => exact .non
  | bl x => exact .bl x
  | int i => exact .int i
  | str x => exact .str x
  | tup h => exact .tup (e _ _ h)
  | lst h => exact .lst (e _ _ h)
  | dK h => exact .dK (e _ _ h)
  | ins h => exact .ins (e _ _ h)
theorem typeOf_at {M : Model} {h : Heap} {a : Addr} {o : Obj} (e : h.get? a = some o) : PySem.W.Looks M h (typeOf (.ref a)) o.cls := (PySem.W.Looks.ld (part := none) e).andThen .now
theorem TyY.looks {pins : List (Addr × Obj)} {σ : St} {H : Hp} {s : Shared} {M : Model} {y : V} {v t : Value} (I : Inv X pins σ H s) (ry : RelV y v) (h : TyY H y t) : PySem.W.Looks M s.heap (typeOf v) t := by
  cases h with
  | non => cases ry; exact PySem.W.Looks.of_pure rfl
  | bl x => cases ry; exact PySem.W.Looks.of_pure rfl
  | int i => obtain ⟨t, rfl⟩ := ry; exact PySem.W.Looks.of_pure rfl
  | str x => obtain ⟨t, rfl⟩ := ry; exact PySem.W.Looks.of_pure rfl
  | @tup a xs e =>
    cases ry
    obtain ⟨_, _, _, o, h1, h2, _⟩ := (show ObjOk X.prog X.w H s.heap a (.tup xs) from I.hok a _ e)
    rw [← h2]
    exact typeOf_at h1
  | @lst a xs e =>
    cases ry
    obtain ⟨_, _, _, _, h1⟩ := (show ObjOk X.prog X.w H s.heap a (.lst xs) from I.hok a _ e)
    exact typeOf_at h1
  | @dK a kvs e =>
    cases ry
    obtain ⟨_, _, vs, _, o, es, ep, h1, h2, _⟩ := (show ObjOk X.prog X.w H s.heap a (.dK kvs) from I.hok a _ e)
    have := h2.1
    rw [← this]
    exact typeOf_at h1
  | @ins a C dx fs e =>
    cases ry
    obtain ⟨mA, O, _⟩ := ins_get I.hok e
    obtain ⟨od, J, _⟩ := O.look
    exact J.type
/-- an own class with __eq__ at f, != left to object -/
structure OwnE (K : PySem.W.Frag) (C f : Addr) : Prop where
  eq : PySem.W.findIn K (.ref C) "__eq__" = some (some (.ref f))
  ne : PySem.W.findIn K (.ref C) "__ne__" = some (some (.builtin "object.__ne__"))
  ob : PySem.W.mroIn K C (.type "object") = some true
/-- what the own == promises: it only makes objects -/
def spEqB (R : EqvB) : Sp := fun vs H Q _ => ∃ x y b, vs = [x, y] ∧ R x y H b ∧ ∀ H', Ext H H' → Q (.bl b) H'
/-- instances by an own __eq__ at f: the left one is asked, or the right one, if its class is below -/
def DOw (K : PySem.W.Frag) (f : Addr) (R : EqvB) : EqvB := fun x y H b => ∃ a C dx fs, x = .ref a ∧ H a = some (.ins C dx fs) ∧
  ((∃ t, TyY H y t ∧ OwnE K C f ∧ PySem.W.notFirst K C t = true ∧ R x y H b) ∨
   (∃ c D dy gs, y = .ref c ∧ H c = some (.ins D dy gs) ∧ D ≠ C ∧ PySem.W.mroIn K D (.ref C) = some true ∧ OwnE K D f ∧ R y x H b))
theorem monB_own {K : PySem.W.Frag} {f : Addr} {R : EqvB} (hR : MonB R) : MonB (DOw K f R) := fun x y H H' b ex d => by
  obtain ⟨a, C, dx, fs, hx, h1, d⟩ := d
  refine ⟨a, C, dx, fs, hx, ex _ _ h1, ?_⟩
  rcases d with ⟨t, ty, o, nf, r⟩ | ⟨c, D, dy, gs, hy, h2, ne, sb, o, r⟩
  · exact .inl ⟨t, ty.mon ex, o, nf, hR _ _ _ _ _ ex r⟩
  · exact .inr ⟨c, D, dy, gs, hy, ex _ _ h2, ne, sb, o, hR _ _ _ _ _ ex r⟩
theorem in1_units {A : Around} (h : A.units + 64 < cLine) : A.in1.units < cLine := by
  have e : A.in1.units = A.units + 1 := rfl
  omega
theorem rcB_own {CX : CXT} {f : Addr} {fd : FuncData} {ps : List Str} {R : EqvB} {E : XK} (F : FnOk X.prog X.w X.K X.mg X.base CX n f fd ps (spEqB R)) (hf : PySem.W.isFn X.K (.ref f) = true) (hb : Binds X.K fd ps []) (hx : Passes CX X E) : RcB X (n + 1) ne (DOw X.K f R) := by
  intro A pins s σ H x y u v b sb I rx ry d
  obtain ⟨a, C, dx, fs, rfl, ha, d⟩ := d
  cases rx
  obtain ⟨mA, O, _⟩ := ins_get I.hok ha
  obtain ⟨od, J, _⟩ := O.look
  have KX := I.kIn
  -- the call of f upon two values
  have call : ∀ (A' : Around) (p q : V) (u' v' : Value) (P : Value → Shared → Prop), Sub X n A' → RelV p u' → RelV q v' → R p q H b → (∀ s' H', Inv X pins σ H' s' → Ext H H' → P (.bool b) s') →
      wpAny (model X.prog X.w) A' (call (.ref f) [u', v']) P X.xe s := by
    intro A' p q u' v' P sb' rp rq hr hP
    have hsp : spEqB R [p, q] H (fun v H' => v = .bl b ∧ Ext H H') E := ⟨p, q, b, rfl, hr, fun H' e => ⟨rfl, e⟩⟩
    have e0 : Env0 X.prog X.w X.K X.mg X.base A' X.stack s H := by
      have e := I.env0
      exact ⟨by rw [sb'.fr]; exact e.frames, e.mod, e.bs, e.bsz, e.funs, e.frf, e.hok, e.bare⟩
    have hl := F.len _ _ _ _ hsp
    have r2 : Vals [p, q] [u', v'] := .cons rp (.cons rq .nil)
    refine wpAny_call (codeAny_mono (F.run A' X.stack s H ⟨[u', v'], []⟩ [u', v'] [p, q] _ E sb'.room e0 (by
      have := hb s [u', v'] I.kIn (by simpa using hl)
      simpa using this) r2 hsp) fun r s' hq => ?_)
    cases r with
    | error e => exact hx pins σ H s e s' I hq
    | ok fl =>
      cases fl with
      | ret w =>
        obtain ⟨z, H', I', rz, ez, ex⟩ := I.after hq
        subst ez
        cases rz
        exact hP s' H' I' ex
      | next => exact False.elim hq
      | brk => exact False.elim hq
      | cont => exact False.elim hq
  rcases d with ⟨t, ty, o, nf, hr⟩ | ⟨c, D, dy, gs, rfl, hc, hne, hsub, o, hr⟩
  · refine GB.rc_left (op := opOf ne) sb.room.units0 KX J (ty.looks I ry) nf ?_
    cases ne with
    | false => exact GB.tc_eq KX J o.eq hf (call A (.ref a) y _ _ _ (sb.mono (Nat.le_succ n)) rfl ry hr fun s' H' I' ex => ⟨b, rfl, _, rfl, by simp, H', I', ex⟩)
    | true => exact GB.tc_ne KX J o.eq hf o.ne o.ob (in1_units sb.room.units) (call A.in1 (.ref a) y _ _ _ sb.in1 rfl ry hr fun s' H' I' ex => ⟨b, rfl, _, rfl, by cases b <;> rfl, H', I', ex⟩)
  · cases ry
    obtain ⟨mB, O', _⟩ := ins_get I.hok hc
    obtain ⟨od', J', _⟩ := O'.look
    refine GB.rc_right (op := opOf ne) sb.room.units0 KX J J' hne hsub ?_
    cases ne with
    | false => exact GB.tc_eq KX J' o.eq hf (call A (.ref c) (.ref a) _ _ _ (sb.mono (Nat.le_succ n)) rfl rfl hr fun s' H' I' ex => ⟨b, rfl, _, rfl, by simp, H', I', ex⟩)
    | true => exact GB.tc_ne KX J' o.eq hf o.ne o.ob (in1_units sb.room.units) (call A.in1 (.ref c) (.ref a) _ _ _ sb.in1 rfl rfl hr fun s' H' I' ex => ⟨b, rfl, _, rfl, by cases b <;> rfl, H', I', ex⟩)
/-- from a rich comparison of references to == inside a list or tuple: an object is equal to itself, so D must say so -/
theorem RcB.eqB (h : RcB X n false D) (hr : ∀ x y H b, D x y H b → ∃ a c, x = .ref a ∧ y = .ref c ∧ (a = c → b = true)) : EqB X n D := by
  intro A pins s σ H x y u v b sb I rx ry d
  obtain ⟨a, c, rfl, rfl, hac⟩ := hr _ _ _ _ d
  cases rx
  cases ry
  by_cases hab : a = c
  · subst hab
    rw [hac rfl]
    exact SeqAt.EqAt.same (A := A) (s := s) (.ref a) X.prog X.w X.xe _ ⟨rfl, H, I, Ext.rfl'⟩
  · refine GQ.eqBool_refG hab (wpAny_mono (h A pins s σ H (.ref a) (.ref c) _ _ b sb I rfl rfl d) (fun r s' q => ?_) fun _ _ x => x)
    obtain ⟨hr', q⟩ := q
    exact ⟨b, by rw [hr']; simp, rfl, q⟩
/-- x == y, x != y as an expression -/
def rCmpB (ne : Bool) (D : EqvB) : R2 := fun x y H Q => ∃ b, D x y H b ∧ ∀ H', Ext H H' → Q (.bl (ne != b)) H'
theorem op_cmpB (h : RcB X n ne D) (hr : Room n X.A) : OpR X (compareOp (opOf ne)) (rCmpB ne D) := by
  intro pins s σ H x y v u Q I rx ry hq
  obtain ⟨b, d, q⟩ := hq
  have e : compareOp (opOf ne) v u = richCompare (opOf ne) v u := by cases ne <;> rfl
  rw [e]
  refine wpAny_mono (h X.A pins s σ H x y v u b ⟨hr, rfl⟩ I rx ry d) (fun r s' z => ?_) fun _ _ x => x
  obtain ⟨hr', H', I', e⟩ := z
  subst hr'
  exact ⟨.bl (ne != b), H', I', rfl, q H' e⟩
end
end L2

/-! Own classes: what the text says of a class, C() without __init__, isinstance, fields and constants and methods by the value's own class. -/
namespace L2
open PySem PySem.Spec PyProof.Rows
/-- the facts of an own class -/
structure OCls (K : PySem.W.Frag) (C : Addr) : Prop where
  cl : Cls K C
  ha : PySem.W.findIn K (.ref C) "__class__" = some (some (.builtin "object.__class__"))
  hn : PySem.W.specialIn K (.builtin "object.__class__") "__get__" = some (some (.builtin "getset_descriptor.__get__"))
  tk : PySem.W.takesIn K (.builtin "object.__class__") = some true
  hm : PySem.W.mroIn K C (.type "object") = some true
  ic : PySem.W.isClsIn K C = true
  ty : PySem.W.typeIn K (.ref C) = some (.type "type")
theorem OCls.ins {K : PySem.W.Frag} {C : Addr} (c : OCls K C) {H : Hp} {a dx : Addr} {fs : List (Str × V)} (e : H a = some (.ins C dx fs)) : TyX K H (.ref a) (.ref C) := .base (.ins e c.cl c.ha c.hn c.tk c.hm)
theorem OCls.kit {K : PySem.W.Frag} {C : Addr} (c : OCls K C) {t : Value} {b : Bool} (h : PySem.W.subIn K t (.ref C) = some b) (he : t = .ref C → b = true) : PySem.W.kitOne K t (.ref C) = some b := by
  unfold PySem.W.kitOne
  by_cases e : (t == Value.ref C) = true
  · rw [if_pos e, he (eq_of_beq e)]
  · rw [if_neg e]
    unfold PySem.W.kitCls
    have h1 : (PySem.W.clsIn K C).isSome = true := c.ic
    have h2 : (PySem.W.typeIn K (.ref C) == some (.type "type")) = true := by rw [c.ty]; simp
    show (if ((PySem.W.clsIn K C).isSome && PySem.W.typeIn K (.ref C) == some (.type "type")) = true then PySem.W.subIn K t (.ref C) else none) = some b
    rw [h1, h2]
    exact h
def rIsiC (K : PySem.W.Frag) : List V → Hp → VK → Prop := fun xs H Q => match xs with
  | [x, .ref C] => ∃ t b, TyX K H x t ∧ PySem.W.kitOne K t (.ref C) = some b ∧ Q (.bl b) H
  | [x, .ty n] => ∃ t b, TyX K H x t ∧ PySem.W.kitOne K t (.type n) = some b ∧ Q (.bl b) H
  | _ => False
/-- C() of a class without an __init__ -/
def tNewN (C : Addr) : TE := fun _ H Q => ∀ x dx, H x = none → H dx = none → dx ≠ x → Q (.ref x) (upd (upd H dx (.own x)) x (.ins C dx []))
structure MkN (K : PySem.W.Frag) (C : Addr) : Prop where
  makes : PySem.W.makesIn K C = true
  init : PySem.W.findIn K (.ref C) "__init__" = some (some (.builtin "object.__init__"))
  kp : PySem.W.keepIn K (.ref C) = true
section
variable {X : Cx} {C : Addr} {x : Str} {p pos : Pos}
theorem cc_isi {K : PySem.W.Frag} (hK : X.K = K := by rfl) : CallR X (.builtin "isinstance") (rIsiC K) := hK ▸ call_isi.weak fun xs H Q h => by
  unfold rIsiC at h
  split at h
  · obtain ⟨t, b, ty, e, q⟩ := h; exact ⟨_, _, t, _, b, rfl, .own _, ty, e, q⟩
  · obtain ⟨t, b, ty, e, q⟩ := h; exact ⟨_, _, t, _, b, rfl, .ty _, ty, e, q⟩
  · exact h.elim
theorem run_newN {pins : List (Addr × Obj)} {σ : St} {H : Hp} {s : Shared} {Q : VK} (M : MkN X.K C) (I : Inv X pins σ H s) (h : tNewN C σ H Q) : wpAny (model X.prog X.w) X.A (call (.ref C) []) (EP X pins σ Q) X.xe s := by
  have hq := h (s.heap.objs.size + 1) s.heap.objs.size (I.hok.fresh (Nat.le_succ _)) (I.hok.fresh (Nat.le_refl _)) (Nat.ne_of_lt (Nat.lt_succ_self _))
  have I2 := Inv.made (C := C) I
  refine wpAny_call (make_map0 I.kIn M.makes M.init (fun self => PySem.W.Looks.of_pure (PySem.W.oi_bind self)) ?_)
  have Y := PySem.W.makes_of (M := model X.prog X.w) I.kIn M.makes
  have t1 : PySem.W.Looks (model X.prog X.w) ((s.heap.push PySem.W.emptyDict).push (PySem.W.instObj C s.heap.objs.size)) (typeOf (.ref (s.heap.objs.size + 1))) (.ref C) := by
    refine typeOf_at (o := PySem.W.instObj C s.heap.objs.size) ?_
    have := Heap.get?_push_at (h := s.heap.push PySem.W.emptyDict) (o := PySem.W.instObj C s.heap.objs.size) rfl rfl
    rw [Heap.size_push] at this
    exact this
  have t2 : PySem.W.Looks (model X.prog X.w) ((s.heap.push PySem.W.emptyDict).push (PySem.W.instObj C s.heap.objs.size)) (isInstance (.ref (s.heap.objs.size + 1)) (.type "object")) true := t1.andThen (Y.top.keeps fun b o e => Heap.get?_push_of_some _ (Heap.get?_push_of_some _ e))
  refine codeAny_call_builtin PySem.W.oi_plain PySem.W.entry_oi (@PySem.W.check_slot (model X.prog X.w) _ _ _ "object.__init__" "object" "__init__" (.ref (s.heap.objs.size + 1)) [] [] _ PySem.W.oi_kind PySem.W.oi_split t2 (PySem.W.oi_args (.ref (s.heap.objs.size + 1))) ?_)
  rw [PySem.W.oi_run]
  exact wpAny_pure (And.intro rfl ⟨V.ref (s.heap.objs.size + 1), _, I2, rfl, hq⟩)
theorem pe_newN (M : MkN X.K C) (hg : Gl X x) (hm : X.mg x = some (.ref C)) (hdb : (x == ("__debug__" : Str)) = false := by decide) : PE X (.Call (.Name x p) [] [] pos) (tNewN C) := by
  refine ⟨fun pins s σ H Q I h => ?_⟩
  refine wpAny_Call_Name_kw (ld_glob I hg hm ?_ hdb)
  exact PySem.W.callWith_K0 I.kIn M.kp (run_newN M I h)
end
/-! ### attributes, by the object's own class -/
def tFldC (K : PySem.W.Frag) (ta : TE) (f : Str) : TE := fun σ H Q => ta σ H fun x H1 => match x with
  | .ref a => ∃ C dx fs v, H1 a = some (.ins C dx fs) ∧ Cls K C ∧ NoAttr K C f ∧ fs.lookup f = some v ∧ Q v H1
  | _ => False
def tConC (K : PySem.W.Frag) (ta : TE) (f : Str) : TE := fun σ H Q => ta σ H fun x H1 => match x with
  | .ref a => ∃ C dx fs v u, H1 a = some (.ins C dx fs) ∧ Cls K C ∧ Con K C f v u ∧ fs.lookup f = none ∧ Q v H1
  | _ => False
def sFldC (K : PySem.W.Frag) (ta tv : TE) (f : Str) : TS := fun D σ H => tv σ H fun y H1 => ta σ H1 fun x H2 => match x with
  | .ref a => ∃ C dx fs, H2 a = some (.ins C dx fs) ∧ Cls K C ∧ NoAttr K C f ∧ fs.length < 1000 ∧ D.nx σ (upd H2 a (.ins C dx (putF f y fs)))
  | _ => False
theorem rf_fun {f : Addr → Hp → Prop} {g : V → Hp → Prop} (e : ∀ a H, f a H ↔ g (.ref a) H) : (fun (x : V) (H1 : Hp) => match x with | .ref a => f a H1 | _ => False) = (fun (x : V) (H1 : Hp) => match x with | .ref a => g (.ref a) H1 | _ => False) := by
  funext x H1
  cases x with
  | ref a => exact propext (e a H1)
  | _ => rfl
theorem PE.rfc {X : Cx} {e : Expr} {te : TE} (h : PE X e te) : PE X e (fun σ H Q => te σ H fun x H1 => match x with | .ref a => Q (.ref a) H1 | _ => False) := ⟨fun pins s σ H Q I q => by
  refine thn (h.run pins s σ H _ I q) fun v s1 hv => ?_
  obtain ⟨x, H1, I1, r1, q1⟩ := hv
  cases x with
  | ref k => exact ⟨_, H1, I1, r1, q1⟩
  | _ => exact q1.elim⟩
section
variable {X : Cx} {e o value : Expr} {ta tv : TE} {f : Str} {pos pos' : Pos}
theorem ce_fld {K : PySem.W.Frag} (he : PE X e ta) (hb : attributeBase e f X.env (eval e X.env) = eval e X.env) (hK : X.K = K := by rfl) : PE X (.Attribute e f pos) (tFldC K ta f) := by
  subst hK
  refine (pe_fld he.rfc hb).weak fun σ H Q h => ?_
  have h' : ta σ H fun x H1 => match x with | .ref a => ∃ C dx fs v, H1 a = some (.ins C dx fs) ∧ Cls X.K C ∧ NoAttr X.K C f ∧ fs.lookup f = some v ∧ Q v H1 | _ => False := h
  rw [rf_fun (g := fun x H1 => ∃ a C dx fs v, x = .ref a ∧ H1 a = some (.ins C dx fs) ∧ Cls X.K C ∧ NoAttr X.K C f ∧ fs.lookup f = some v ∧ Q v H1) (fun a H1 => ⟨fun ⟨C, dx, fs, v, q⟩ => ⟨a, C, dx, fs, v, rfl, q⟩, fun ⟨a', C, dx, fs, v, e, q⟩ => by cases e; exact ⟨C, dx, fs, v, q⟩⟩)] at h'
  exact h'
theorem ce_con {K : PySem.W.Frag} (he : PE X e ta) (hb : attributeBase e f X.env (eval e X.env) = eval e X.env) (hK : X.K = K := by rfl) : PE X (.Attribute e f pos) (tConC K ta f) := by
  subst hK
  refine (pe_con he.rfc hb).weak fun σ H Q h => ?_
  have h' : ta σ H fun x H1 => match x with | .ref a => ∃ C dx fs v u, H1 a = some (.ins C dx fs) ∧ Cls X.K C ∧ Con X.K C f v u ∧ fs.lookup f = none ∧ Q v H1 | _ => False := h
  rw [rf_fun (g := fun x H1 => ∃ a C dx fs v u, x = .ref a ∧ H1 a = some (.ins C dx fs) ∧ Cls X.K C ∧ Con X.K C f v u ∧ fs.lookup f = none ∧ Q v H1) (fun a H1 => ⟨fun ⟨C, dx, fs, v, u, q⟩ => ⟨a, C, dx, fs, v, u, rfl, q⟩, fun ⟨a', C, dx, fs, v, u, e, q⟩ => by cases e; exact ⟨C, dx, fs, v, u, q⟩⟩)] at h'
  exact h'
theorem cs_fld {K : PySem.W.Frag} (ha : PE X o ta) (hv : PE X value tv) (hs : swapsWith value (some (.Attribute o f pos')) pos.line X.env = pure false) (hK : X.K = K := by rfl) : PS X (.Assign [.Attribute o f pos'] value pos) (sFldC K ta tv f) := by
  subst hK
  refine (ps_fld ha.rfc hv hs).weak fun D σ H h => ?_
  have h' : tv σ H fun y H1 => ta σ H1 fun x H2 => match x with | .ref a => ∃ C dx fs, H2 a = some (.ins C dx fs) ∧ Cls X.K C ∧ NoAttr X.K C f ∧ fs.length < 1000 ∧ D.nx σ (upd H2 a (.ins C dx (putF f y fs))) | _ => False := h
  have eq : (fun (y : V) (H1 : Hp) => ta σ H1 fun x H2 => match x with | .ref a => ∃ C dx fs, H2 a = some (.ins C dx fs) ∧ Cls X.K C ∧ NoAttr X.K C f ∧ fs.length < 1000 ∧ D.nx σ (upd H2 a (.ins C dx (putF f y fs))) | _ => False)
      = (fun (y : V) (H1 : Hp) => ta σ H1 fun x H2 => match x with | .ref a => (fun (x : V) (H2 : Hp) => ∃ a C dx fs, x = .ref a ∧ H2 a = some (.ins C dx fs) ∧ Cls X.K C ∧ NoAttr X.K C f ∧ fs.length < 1000 ∧ D.nx σ (upd H2 a (.ins C dx (putF f y fs)))) (.ref a) H2 | _ => False) := by
    funext y H1
    rw [rf_fun (g := fun x H2 => ∃ a C dx fs, x = .ref a ∧ H2 a = some (.ins C dx fs) ∧ Cls X.K C ∧ NoAttr X.K C f ∧ fs.length < 1000 ∧ D.nx σ (upd H2 a (.ins C dx (putF f y fs)))) (fun a H1 => ⟨fun ⟨C, dx, fs, q⟩ => ⟨a, C, dx, fs, rfl, q⟩, fun ⟨a', C, dx, fs, e, q⟩ => by cases e; exact ⟨C, dx, fs, q⟩⟩)]
  rw [eq] at h'
  exact h'
end
/-- o.m(..), the object's class one of some: i tells which -/
def tMethC (K : PySem.W.Frag) (C : Addr) (m : Str) (sp : Sp) (dvs : List V) (E : XK) (ta : TE) (t : TA) : TE := fun σ H Q => ta σ H fun x H1 => match x with
  | .ref a => ∃ dx fs, H1 a = some (.ins C dx fs) ∧ fs.lookup m = none ∧ t σ H1 fun vs H2 => sp (.ref a :: vs ++ dvs) H2 Q E
  | _ => False
end L2
namespace L2
open PySem PySem.Spec PyProof.Rows
section
variable {P : Program} {w : World} {K : PySem.W.Frag} {mg : Str → Option Value} {base : Heap}
theorem FunS.binds {x qual : Str} {st : Stmt} {f cda D : Addr} {fd : FuncData} {ps : List Str} (F : FunS K x qual st f cda D fd)
    (h : ∀ (kV doc pm : Value) (an : Option Addr) (ct : Value) (cc : Addr) (us : List Value), us.length = ps.length → bindArgs (PySem.W.ksFn x qual (defArgs st) (defBody st) (defScope st) .none kV doc pm an (.ref cda) ct cc) ⟨us, []⟩ = pure (ps.zip us)) : Binds K fd ps [] := by
  obtain ⟨oc, od, kV, doc, pm, an, ct, osl, cc, cl, cld, csl, rfl, _⟩ := F.ex
  exact .all (h kV doc pm an ct cc)
theorem funS_mk {x qual : Str} {st : Stmt} {f cda D cc : Addr} {oc : Value} {od an : Option Addr} {osl : Array (Option Value)} {kV doc pm ct cl : Value} {cld : Option Addr} {csl : Array (Option Value)}
    (l : K.lookup f = some ⟨oc, od, .func (PySem.W.ksFn x qual (defArgs st) (defBody st) (defScope st) .none kV doc pm an (.ref cda) ct cc), osl⟩)
    (c : PySem.W.codeIn K (.ref cda) qual = true) (hc : K.lookup cc = some ⟨cl, cld, .cell (some (.ref D)), csl⟩) (k : PySem.W.keepIn K (.ref f) = true) :
    FunS K x qual st f cda D (PySem.W.ksFn x qual (defArgs st) (defBody st) (defScope st) .none kV doc pm an (.ref cda) ct cc) := ⟨⟨oc, od, kV, doc, pm, an, ct, osl, cc, cl, cld, csl, rfl, l, c, hc⟩, k⟩
end
end L2

/-! An own exception class called with keywords: type.__call__, ValueError.__new__, the own __init__. -/
namespace PySem
namespace OEK
open PySem.W PySem.Calls PyProof.Rows PySem.HandSPX
open Builtin Builtin.ObjectAttr
section
variable {M : Model} {A : Around} {E : Value → Shared → Prop} {h : Heap} {g : Array GenState} {d : Drawn} {t : Nat} {os : OsState}
variable {nm q : Str} {C N : Addr} {bs bm bmB : List Value} {hdct : Bool} {sn : List Str} {sub : List Value} {ab : Bool} {col : Option Bool} {dd : Option Addr} {k0 k1 k2 k3 k5 : Option Value} {B newId initId : String}
theorem check_new_kw (F : ExcBaseFacts B newId initId bmB) (hT : ∀ X : String, bm.contains (.type X) = bmB.contains (.type X)) {rest : List Value} {kw : List (Str × Value)} {Q : Unit → Shared → Prop}
    (hC : h.get? C = some (excClassObj nm q C N bs bm hdct sn sub ab col dd k0 k1 k2 k3 k5 newId)) (hq : Q () ⟨h, g, d, t, os⟩) : wpAny M A (checkBuiltinCall newId ⟨.ref C :: rest, kw⟩) Q E ⟨h, g, d, t, os⟩ := by
  have hcont : (Value.ref C :: bm).contains (.type B) = true := by rw [List.contains_cons, hT, F.hasB, Bool.or_true]
  have hstar := F.noStar
  simp only [checkBuiltinCall, F.newKind, F.newSplit, F.newRow]
  repeat (first | refine wpAny_loadPart_at hC ?_ | (refine wpAny_isSubtype_exc hC ?_; rw [hcont]) | refine wpAny_staticBase_exc hC ?_ | refine wpAny_madeBy_exc hC ?_ | simp only [bne_self_eq_false, Bool.false_eq_true, if_false] | wp_step)
  exact hq
end
section
variable {prog : Program} {w : World} {A : Around} {E : Value → Shared → Prop} {R : Result → Shared → Prop} {h : Heap} {g : Array GenState} {d : Drawn} {t : Nat} {os : OsState}
variable {nm q : Str} {C N : Addr} {bs bm bmB : List Value} {hdct : Bool} {sn : List Str} {sub : List Value} {ab : Bool} {col : Option Bool} {dd : Option Addr} {k0 k1 k2 k3 k5 : Option Value} {B newId initId : String}
theorem new_kw (F : ExcBaseFacts B newId initId bmB) (hT : ∀ X : String, bm.contains (.type X) = bmB.contains (.type X)) {rest : List Value} {kw : List (Str × Value)}
    (hC : h.get? C = some (excClassObj nm q C N bs bm hdct sn sub ab col dd k0 k1 k2 k3 k5 newId))
    (hq : R (.ok (.ret (.ref (h.objs.size + 1)))) ⟨(h.push { cls := .type "tuple", data := .seq rest.toArray }).push
      { cls := .ref C, data := .fields #[.ref h.objs.size, .none, .none, .none, .bool false, .none] }, g, d, t, os⟩) (hrest : rest.length ≤ sizeLine) :
    codeAny (model prog w) A (.builtin newId ⟨.ref C :: rest, kw⟩) R ⟨h, g, d, t, os⟩ := by
  have hends := F.ends
  have hcB : (Value.ref C :: bm).contains (.type B) = true := by rw [List.contains_cons, hT, F.hasB, Bool.or_true]
  have hcA : (Value.ref C :: bm).contains (.type "AttributeError") = false := by rw [List.contains_cons, hT, F.noAttr]; rfl
  have hcN : (Value.ref C :: bm).contains (.type "NameError") = false := by rw [List.contains_cons, hT, F.noName]; rfl
  refine codeAny_builtinAt F.entry ?_
  unfold Builtin.«BaseException.__new__»
  refine wpAt_bind ?_
  show wpAt _ _ _ (stack >>= _) _ _ _
  refine wpAt_bind (wpAt_stack fun p below => wpAt_of_wpAny ?_)
  wp_walk
  refine wpAt_of_wpAny ?_
  rw [F.owner]
  repeat (first | with_reducible refine wpAny_madeHere_exc F.canon hC ?_ | with_reducible refine wpAny_loadPart_at hC ?_ | (with_reducible refine wpAny_isSubtype_exc hC ?_; first | rw [hcB] | rw [hcA] | rw [hcN]) | wp_step)
  show R _ _
  rw [Heap.size_push]
  exact hq

theorem type_call_kw (F : ExcBaseFacts B newId initId bmB) (hT : ∀ X : String, bm.contains (.type X) = bmB.contains (.type X)) {rest : List Value} {kw : List (Str × Value)} {fI : Addr} {Q : Fin → Shared → Prop}
    (hC : h.get? C = some (excClassObj nm q C N bs bm hdct sn sub ab col dd k0 k1 k2 k3 k5 newId))
    (hi : W.Looks (model prog w) h (typeLookup (.ref C) "__init__") (some (.ref fI))) (hb : ∀ self, W.Looks (model prog w) h (bindSpecial (.ref fI) self) (.ref fI, [self])) (hrest : rest.length ≤ sizeLine)
    (hq : codeAny (model prog w) A (.call (.ref fI) ⟨.ref (h.objs.size + 1) :: rest, kw⟩)
      (fun r s' => match r with | .ok (.ret v) => v = .none ∧ Q (.done (.ret (.ref (h.objs.size + 1)))) s' | .ok _ => False | .error e => E e s')
      ⟨(h.push (W.kdv_tup rest)).push (excO C h.objs.size), g, d, t, os⟩) :
    wpAny (model prog w) A (Builtin.«type.__call__» ⟨.ref C :: rest, kw⟩) Q E ⟨h, g, d, t, os⟩ := by
  repeat (first | with_reducible refine wpAny_loadPart_at hC ?_ | with_reducible refine wpAny_madeBy_exc hC ?_ | wp_step)
  refine codeAny_call_builtin_code (Code.quiet_builtin _ F.quiet) (check_new_kw F hT hC ?_)
  refine new_kw F hT hC ?_ hrest
  show wpAny _ _ _ _ _ _
  have k : ∀ b o, h.get? b = some o → ((h.push (W.kdv_tup rest)).push (excO C h.objs.size)).get? b = some o := fun b o e => Heap.get?_push_of_some _ (Heap.get?_push_of_some _ e)
  have hC₁ := k _ _ hC
  have hget : ((h.push (W.kdv_tup rest)).push (excO C h.objs.size)).get? (h.objs.size + 1) = some (excO C h.objs.size) := by heap_get
  have hcC : (Value.ref C :: bm).contains (.ref C) = true := by simp
  have i1 := hi.keeps k
  have b1 := (hb (.ref (h.objs.size + 1))).keeps k
  unfold isInstance
  repeat (first | with_reducible refine wpAny_loadPart_at hget ?_ | (with_reducible refine wpAny_isSubtype_exc hC₁ ?_; rw [hcC]) | wp_step)
  show wpAny _ _ (typeLookup (.ref C) _) _ _ _
  refine i1.at ?_
  refine wpAny_holding (wpAny_bind (b1.at ?_))
  refine wpAny_bind (wpAny_call (codeAny_mono hq fun r s' z => ?_))
  rcases r with e | (v | _ | _ | _) <;> first | exact z | exact z.elim | skip
  obtain ⟨rfl, z⟩ := z
  first
    | exact wpAny_pure (wpAny_pure z)
    | (wp_walk; exact z)
theorem check_type_call_kw {M : Model} {rest : List Value} {kw : List (Str × Value)} {Q : Unit → Shared → Prop} (hC : h.get? C = some (excClassObj nm q C N bs bm hdct sn sub ab col dd k0 k1 k2 k3 k5 newId))
    (hq : Q () ⟨h, g, d, t, os⟩) : wpAny M A (checkBuiltinCall "type.__call__" ⟨.ref C :: rest, kw⟩) Q E ⟨h, g, d, t, os⟩ := by
  have f3 := tc_sub
  have hT : (⟨h, g, d, t, os⟩ : Shared).TypeIs (.ref C) "type" := ⟨_, hC, rfl⟩
  simp only [checkBuiltinCall, tc_kind, tc_split]
  repeat (any_goals (first | assumption | with_reducible refine wpAny_loadPart_at hC ?_ | with_reducible refine wpAny_onRaise ?_ | with_reducible refine wpAny_map ?_ | wp_step))
theorem call_kw (F : ExcBaseFacts B newId initId bmB) (hT : ∀ X : String, bm.contains (.type X) = bmB.contains (.type X)) {rest : List Value} {kw : List (Str × Value)} {fI : Addr}
    (hC : h.get? C = some (excClassObj nm q C N bs bm hdct sn sub ab col dd k0 k1 k2 k3 k5 newId))
    (hi : W.Looks (model prog w) h (typeLookup (.ref C) "__init__") (some (.ref fI))) (hb : ∀ self, W.Looks (model prog w) h (bindSpecial (.ref fI) self) (.ref fI, [self])) (hrest : rest.length ≤ sizeLine)
    (hq : codeAny (model prog w) (A.under (.builtin "type.__call__" ⟨.ref C :: rest, kw⟩)) (.call (.ref fI) ⟨.ref (h.objs.size + 1) :: rest, kw⟩) (W.InitBack (h.objs.size + 1) R)
      ⟨(h.push (W.kdv_tup rest)).push (excO C h.objs.size), g, d, t, os⟩) :
    codeAny (model prog w) A (.call (.ref C) ⟨rest, kw⟩) R ⟨h, g, d, t, os⟩ := by
  have f1 := tc_lookup
  have f2 := tc_bind (.ref C)
  have hTy : (⟨h, g, d, t, os⟩ : Shared).TypeIs (.ref C) "type" := ⟨_, hC, rfl⟩
  refine codeAny_of_tree ?_
  show wpAny _ _ (callAny (.ref C) _) _ _ _
  repeat (any_goals (first | assumption | with_reducible refine wpAny_loadPart_at hC ?_ | wp_step))
  refine ⟨rfl, ?_⟩
  refine codeAny_call_builtin_at (Code.quiet_builtin _ (by decide +kernel)) entry_typeCall (check_type_call_kw hC (type_call_kw F hT hC hi hb hrest ?_))
  refine codeAny_mono hq fun r s' z => ?_
  rcases r with e | (v | _ | _ | _) <;> exact z
end
end OEK
end PySem

/-! Own errors as values: C(..) with an own __init__ that calls the base's, err.f, isinstance. -/
namespace PySem.W
open PySem PySem.Spec PySem.Calls PyProof.Rows
section
variable {prog : Program} {w : World} {A : Around} {E : Value → Shared → Prop} {s : Shared} {K : Frag} {x D : Addr} {ox : Obj} {od : Option Obj}
theorem findObj_dataO {C : Addr} {name : Str} {a g : Value} (hc : (clsIn K C).isSome = true) (ha : findIn K (.ref C) name = some (some a)) (hg : specialIn K a "__get__" = some (some g)) (ht : takesIn K a = some true) : findObj K C od name = some (.bind g a) := by
  obtain ⟨cd, hc⟩ := Option.isSome_iff_exists.mp hc
  unfold findObj
  rw [hc, Option.bind_some, ha, Option.bind_some]
  simp [hg, ht]
theorem kin_classO {Q : Option Value → Shared → Prop} (hga : findIn K (.ref D) "__getattribute__" = some (some (.builtin "BaseException.__getattribute__"))) (hgt : findIn K (.ref D) "__getattr__" = some none) (hsub : subIn K (.ref D) (.type "BaseException") = some true)
    (hdct : hasDictIn K D = true) (ha : findIn K (.ref D) "__class__" = some (some (.builtin "object.__class__")))
    (hn : specialIn K (.builtin "object.__class__") "__get__" = some (some (.builtin "getset_descriptor.__get__"))) (htk : takesIn K (.builtin "object.__class__") = some true) (hm : mroIn K D (.type "object") = some true)
    (X : K.In s.heap) (I : InstAt s.heap x ox D od) (h : Q (some (.ref D)) { s with toks := s.toks + 1 }) : wpAny (model prog w) A (getAttr? (.ref x) "__class__") Q E s := by
  have hf : findObj K D od "__class__" = some (.bind (.builtin "getset_descriptor.__get__") (.builtin "object.__class__")) := findObj_dataO (by obtain ⟨cd, hc, _⟩ := any_some hdct; rw [hc]; rfl) ha hn htk
  obtain ⟨hp, g, d, t, os⟩ := s
  have L0 := I.type (M := model prog w)
  have L1 := looks_findIn (M := model prog w) X hga
  have L2 := looks_findIn (M := model prog w) X hgt
  have L3 := looks_find (M := model prog w) X I hf
  have sub : Looks (model prog w) hp (isInstance (.ref x) (.type "BaseException")) true := L0.andThen (looks_subIn X hsub)
  have hx0 : (false && onTheHeap (Value.builtin "BaseException.__getattribute__")) = false := rfl
  have hx2 : (Value.builtin "BaseException.__getattribute__" == Value.builtin "object.__getattribute__") = false := by decide +kernel
  have hx1 : (onTheHeap (Value.ref D) && Value.builtin "BaseException.__getattribute__" == Value.builtin "object.__getattribute__") = false := by rw [hx2]; rfl
  unfold getAttr? getAttrBy? getAttrBy
  refine wpAny_bind (wpAny_mkText (wpAny_bind (wpAny_attempt (wpAny_holding (wpAny_bind (L0.at (wpAny_bind (L1.at ?_))))))))
  show wpAny _ _ (if (onTheHeap (Value.ref D) && Value.builtin "BaseException.__getattribute__" == Value.builtin "object.__getattribute__") = true then _ else _) _ _ _
  rw [hx1, if_neg Bool.false_ne_true]
  unfold getAttrByItsOwn hookBefore
  refine wpAny_bind ?_
  rw [if_pos (show onTheHeap (Value.ref D) = true from rfl)]
  refine L2.at ?_
  refine wpAny_bind (wpAny_attempt (wpAny_holding ?_))
  unfold callGetattribute
  rw [hx0, if_neg Bool.false_ne_true]
  unfold boundAndCalled
  rw [PySem.F.excAttr_ValueError.ga.bind (.ref x)]
  refine wpAny_bind (wpAny_pure ?_)
  show wpAny _ _ (call (.builtin "BaseException.__getattribute__") [.ref x, .str "__class__" t]) _ _ _
  refine wpAny_call (codeAny_call_builtin PySem.F.excAttr_ValueError.ga.plain PySem.F.entry_bexc_ga ?_)
  refine @check_slot (model prog w) _ _ ⟨hp, g, d, t + 1, os⟩ "BaseException.__getattribute__" "BaseException" "__getattribute__" (.ref x) [.str "__class__" t] [] _ (by decide +kernel) (by decide +kernel) sub (PySem.F.args_bexc_ga (.ref x) (.str "__class__" t)) ?_
  unfold Builtin.«object.__getattribute__»
  refine wpAny_bind (wpAny_of_eq (a := ((Value.ref x : Value), [Value.str "__class__" t])) (by first | rfl | (simp only [slotArgs]; rfl)) ?_)
  refine wpAny_bind (wpAny_pure (wpAny_bind (L0.at (wpAny_bind (L3.at ?_)))))
  show wpAny _ _ (holding [Value.builtin "object.__class__"] (call (.builtin "getset_descriptor.__get__") [.builtin "object.__class__", .ref x, .ref D]) >>= ret) _ _ _
  refine wpAny_bind (wpAny_holding (wpAny_call (class_get (s := ⟨hp, g, d, t + 1, os⟩) (ox := ox) (od := od) X I hm ?_)))
  refine wpAny_pure ?_
  show wpAny _ _ (handedOut (.ref D)) _ _ _
  rw [handedOut_of (v := .ref D) rfl]
  first
    | exact wpAny_pure (wpAny_pure h)
    | exact wpAny_pure h
    | exact wpAny_pure (wpAny_bind (wpAny_pure (wpAny_pure h)))
theorem kitx_excO (hga : findIn K (.ref D) "__getattribute__" = some (some (.builtin "BaseException.__getattribute__"))) (hgt : findIn K (.ref D) "__getattr__" = some none) (hsub : subIn K (.ref D) (.type "BaseException") = some true) (hdct : hasDictIn K D = true) (ha : findIn K (.ref D) "__class__" = some (some (.builtin "object.__class__")))
    (hn : specialIn K (.builtin "object.__class__") "__get__" = some (some (.builtin "getset_descriptor.__get__"))) (htk : takesIn K (.builtin "object.__class__") = some true) (hm : mroIn K D (.type "object") = some true) :
    KitX K (.ref x) (.ref D) (fun h => InstAt h x ox D od) where
  ty := fun _ _ _ I => I.type
  it := fun _ _ X _ => by
    obtain ⟨cdD, hcD, _⟩ := any_some hdct
    unfold clsIn at hcD
    split at hcD
    · rename_i c' d' cd' sl' ho
      intro A' Q' E' s' k q
      unfold isType loadHead
      exact wpAny_bind (wpAny_loadPart (k _ _ (X _ _ ho)) (wpAny_pure q))
    · cases hcD
  ne := fun h tp dd its n sl X htp => by
    obtain ⟨cdD, hcD, _⟩ := any_some hdct
    refine Bool.eq_false_iff.mpr fun q => ?_
    have e : D = tp := Value.ref.inj (beq_iff_eq.mp q)
    subst e
    unfold clsIn at hcD
    split at hcD
    · rename_i c' d' cd' sl' ho
      have z := (X _ _ ho).symm.trans htp
      cases z
    · cases hcD
  ca := fun X I k => kin_classO hga hgt hsub hdct ha hn htk hm X I k
end
end PySem.W
namespace L2
open PySem PySem.Spec PyProof.Rows
/-- what the text says of an error class whose __init__ is the def at fI -/
structure OxF (K : PySem.W.Frag) (C fI : Addr) : Prop where
  oex : OexC K C
  hg : PySem.W.findIn K (.ref C) "__getattribute__" = some (some (.builtin "BaseException.__getattribute__"))
  hk : PySem.W.findIn K (.ref C) "__getattr__" = some none
  hd : PySem.W.hasDictIn K C = true
  ha : PySem.W.findIn K (.ref C) "__class__" = some (some (.builtin "object.__class__"))
  hn : PySem.W.specialIn K (.builtin "object.__class__") "__get__" = some (some (.builtin "getset_descriptor.__get__"))
  tk : PySem.W.takesIn K (.builtin "object.__class__") = some true
  hm : PySem.W.mroIn K C (.type "object") = some true
  ini : PySem.W.findIn K (.ref C) "__init__" = some (some (.ref fI))
  fn : PySem.W.isFn K (.ref fI) = true
/-- at a: an error of the class C with the fields fs -/
def ErrAt (H : Hp) (a C : Addr) (fs : List (Str × V)) : Prop := (fs = [] ∧ H a = some (exo a C none)) ∨ ∃ d, H a = some (exo a C (some d)) ∧ H d = some (exd d fs)
theorem ErrAt.same {H H' : Hp} {a C : Addr} {fs : List (Str × V)} (h : ErrAt H a C fs) (e : Same H H') : ErrAt H' a C fs := by
  rcases h with ⟨h1, h2⟩ | ⟨d, h1, h2⟩
  · exact .inl ⟨h1, e _ _ h2⟩
  · exact .inr ⟨d, e _ _ h1, e _ _ h2⟩
theorem ErrAt.inst {X : Cx} {pins : List (Addr × Obj)} {σ : St} {H : Hp} {s : Shared} {a C : Addr} {fs : List (Str × V)} (I : Inv X pins σ H s) (h : ErrAt H a C fs) :
    ∃ ox od, PySem.W.InstAt s.heap a ox C od ∧ ∀ f v, fs.lookup f = some v → ∃ o u, od = some o ∧ PySem.W.lookIn f o = some (some u) ∧ RelV v u := by
  rcases h with ⟨h1, h2⟩ | ⟨d, h1, h2⟩
  · obtain ⟨t1, ho⟩ := exo_at I.hok h2
    exact ⟨_, none, ⟨ho, rfl, rfl, trivial⟩, fun f v e => by rw [h1] at e; cases e⟩
  · obtain ⟨t1, ho⟩ := exo_at I.hok h1
    obtain ⟨mA, hns, rel⟩ := exd_at I.hok h2
    have hns0 := hns
    obtain ⟨od, hod, hl⟩ := lookIn_ns hns0
    refine ⟨_, some od, ⟨ho, rfl, rfl, hod⟩, fun f v e => ?_⟩
    obtain ⟨u, hu, ru⟩ := RelO.some_of (v := v) (o := mA f) (by rw [← e]; exact rel f)
    exact ⟨od, u, rfl, by rw [hl, hu], ru⟩
section
variable {X : Cx} {o e : Expr} {es : List Expr} {to te : TE} {ta : TA} {f : Str} {p p' p1 p2 pos : Pos}
/-- isinstance(err, c) -/
def rIsX (K : PySem.W.Frag) : List V → Hp → VK → Prop := fun xs H Q => match xs with
  | [.ref a, .ref D] => ∃ C fI fs b, ErrAt H a C fs ∧ OxF K C fI ∧ PySem.W.kitOne K (.ref C) (.ref D) = some b ∧ Q (.bl b) H
  | [.ref a, .ty n] => ∃ C fI fs b, ErrAt H a C fs ∧ OxF K C fI ∧ PySem.W.kitOne K (.ref C) (.type n) = some b ∧ Q (.bl b) H
  | _ => False
theorem cc_isX {K : PySem.W.Frag} (hK : X.K = K := by rfl) : CallR X (.builtin "isinstance") (rIsX K) := by
  subst hK
  intro pins s σ H xs us Q I r h
  unfold rIsX at h
  split at h
  · obtain ⟨C, fI, fs, b, he, T, e, q⟩ := h
    obtain ⟨u1, u2, rfl, r1, r2⟩ := vals2 r
    cases (show u1 = Value.ref _ from r1)
    cases (show u2 = Value.ref _ from r2)
    obtain ⟨ox, od, J, _⟩ := he.inst I
    exact PySem.W.kia_one (PySem.W.kitx_excO T.hg T.hk T.oex.exC T.hd T.ha T.hn T.tk T.hm) I.kIn J e (fun z => nomatch z) fun tk => ⟨.bl b, H, I.tok tk, rfl, q⟩
  · obtain ⟨C, fI, fs, b, he, T, e, q⟩ := h
    obtain ⟨u1, u2, rfl, r1, r2⟩ := vals2 r
    cases (show u1 = Value.ref _ from r1)
    cases (show u2 = Value.type _ from r2)
    obtain ⟨ox, od, J, _⟩ := he.inst I
    exact PySem.W.kia_one (PySem.W.kitx_excO T.hg T.hk T.oex.exC T.hd T.ha T.hn T.tk T.hm) I.kIn J e (fun z => nomatch z) fun tk => ⟨.bl b, H, I.tok tk, rfl, q⟩
  · exact h.elim
/-- err.f -/
def tFldX (K : PySem.W.Frag) (ta : TE) (f : Str) : TE := fun σ H Q => ta σ H fun x H1 => match x with
  | .ref a => ∃ C fI fs v, ErrAt H1 a C fs ∧ OxF K C fI ∧ PySem.W.findIn K (.ref C) f = some none ∧ fs.lookup f = some v ∧ Q v H1
  | _ => False
theorem ce_fldX {K : PySem.W.Frag} {t : TE} (he : PE X e t) (hb : attributeBase e f X.env (eval e X.env) = eval e X.env) (hK : X.K = K := by rfl) : PE X (.Attribute e f pos) (tFldX K t f) := by
  subst hK
  refine ⟨fun pins s σ H Q I h => ?_⟩
  refine attr_of hb (thn (he.run pins s σ H _ I h) fun u s1 hh => ?_)
  obtain ⟨x, H1, I1, rx, q⟩ := hh
  cases x with
  | ref a =>
    obtain ⟨C, fI, fs, v, ea, T, hno, l, q⟩ := q
    obtain rfl : u = Value.ref a := rx
    obtain ⟨ox, od, J, k⟩ := ea.inst I1
    obtain ⟨o, u, rfl, hl, ru⟩ := k f v l
    exact HandSPX.exc_get I1.kIn J T.hg T.hk T.oex.exC (PySem.W.findObj_own T.hd hno rfl hl) (handed_of ru) ⟨v, H1, I1.tok _, ru, q⟩
  | _ => exact q.elim
/-- B.__init__(self, ..), B an own class over ValueError without an __init__ -/
structure BaseI (K : PySem.W.Frag) (C : Addr) : Prop where
  rd : ClX.CRead K C (.type "type")
  at_ : PySem.W.findCls K (.ref C) (.type "type") "__init__" = some (.val (.builtin "ValueError.__init__"))
theorem pe_coinit {x : Str} {C : Addr} {pl : Sem Bool} (hg : Gl X x) (hm : X.mg x = some (.ref C)) (b : BaseI X.K C) (ha : PA X (e :: es) ta)
    (hdb : (x == ("__debug__" : Str)) = false := by decide)
    (hc : eval (.Call (.Attribute (.Name x p1) "__init__" p2) (e :: es) [] pos) X.env = (do
      let ov ← eval (.Name x p1) X.env
      standAt p2.atName
      let (f, first) ← holding [ov] (getMethod ov "__init__" pl)
      callWith pos f first (backTo pos (starEach (e :: es) X.env)) (backToKw pos (keywordEach [] X.env))) := by rfl)
    (he : starEach (e :: es) X.env = (false, eval e X.env) :: starEach es X.env := by rfl) (hpl : (backTo pos (starEach es X.env)).any (·.1) = false := by rfl) :
    PE X (.Call (.Attribute (.Name x p1) "__init__" p2) (e :: es) [] pos) (tVeI X.K ta) := by
  refine ⟨fun pins s σ H Q I h => ?_⟩
  refine PySem.W.methodCall_KW (ld_glob I hg hm ?_ hdb) hc
  refine PySem.W.method_cls I.kIn b.rd.ga (PySem.W.cls_value I.kIn b.rd.rd b.at_ (show PySem.W.handedIn (Value.builtin "ValueError.__init__") = true by decide +kernel) ?_)
  show wpAny _ _ (callWith pos (Value.builtin "ValueError.__init__") [] (backTo pos (starEach (e :: es) X.env)) []) _ _ _
  refine PyProof.Rows.callWith_method1 (thn (ha.run pos pins _ σ H _ (I.tok _) h) fun us s1 ⟨vs, H1, I1, r1, a, C, ws, ev, hl, T, ea, q⟩ => ?_) he hpl
  subst ev
  cases r1 with
  | @cons _ u0 _ ur ra rw' =>
    obtain rfl : u0 = Value.ref a := ra
    have hlen : ur.length ≤ sizeLine := by
      rw [← Paired.length rw', sizeLine_eq]
      omega
    exact oinit_ok T I1 ea hlen fun s' J => ⟨.non, H1, J, rfl, q⟩
/-! ### C(..) -/
def tMkX (C : Addr) (sp : Sp) (gV : List V → List V → List V) (n m : Nat) (ta tk : TA) : TE := fun σ H Q => ta σ H fun vs H1 => tk σ H1 fun zs H2 => vs.length = n ∧ zs.length = m ∧ n ≤ 1000 ∧
  ∀ a, H2 a = none → sp (gV (.ref a :: vs) zs) (upd H2 a (exo a C none)) (fun v H3 => v = .non ∧ Q (.ref a) H3) (fun _ _ _ => False)
variable {CX : CXT} {k n : Nat} {fI C : Addr} {fd : FuncData} {ps ks : List Str} {sp : Sp} {x : Str} {kws : List Keyword} {t tk : TA} {g : List Value → List Value → List Value} {gV : List V → List V → List V}
theorem run_mkX {pins : List (Addr × Obj)} {σ : St} {H : Hp} {s : Shared} {Q : VK} {us ws : List Value} {vs zs : List V} (M : OxF X.K C fI) (F1 : FnOk X.prog X.w X.K X.mg X.base CX k fI fd ps sp) (hr : Room (k + 1) X.A) (hb : KBn X.K fd ps (n + 1) ks g gV)
    (hx : Passes CX X (fun _ _ _ => False)) (I1 : Inv X pins σ H s) (r : Vals vs us) (rz : Vals zs ws) (l1 : vs.length = n) (l2 : zs.length = ks.length) (ln : n ≤ 1000)
    (h : ∀ a, H a = none → sp (gV (.ref a :: vs) zs) (upd H a (exo a C none)) (fun v H3 => v = .non ∧ Q (.ref a) H3) (fun _ _ _ => False)) :
    wpAny (model X.prog X.w) X.A (call (.ref C) us (ks.zip ws)) (EP X pins σ Q) X.xe s := by
  obtain ⟨nm, q, N, bs, bm, sn, sub, ab, col, dd, k0, k1, k2, k3, k5, hC, hbm⟩ := M.oex.cls
  obtain ⟨hp, g', dr, tk', os⟩ := s
  have hsz : hp.objs.size ≤ hp.objs.size + 1 := Nat.le_succ _
  have hn : H (hp.objs.size + 1) = none := I1.hok.fresh hsz
  have hq := h (hp.objs.size + 1) hn
  have kk : ∀ b o, hp.get? b = some o → ((hp.push (PySem.W.kdv_tup us)).push (PySem.HandSPX.excO C hp.objs.size)).get? b = some o := fun b o e => Heap.get?_push_of_some _ (Heap.get?_push_of_some _ e)
  have hget : ((hp.push (PySem.W.kdv_tup us)).push (PySem.HandSPX.excO C hp.objs.size)).get? (hp.objs.size + 1) = some (PySem.HandSPX.excO C hp.objs.size) := by heap_get
  have I2 : Inv X pins σ (upd H (hp.objs.size + 1) (exo (hp.objs.size + 1) C none)) ⟨(hp.push (PySem.W.kdv_tup us)).push (PySem.HandSPX.excO C hp.objs.size), g', dr, tk', os⟩ :=
    I1.laid (t' := tk') (a := hp.objs.size + 1) (o := exo (hp.objs.size + 1) C none) (h' := (hp.push (PySem.W.kdv_tup us)).push (PySem.HandSPX.excO C hp.objs.size)) kk hsz (exo_ok hget)
  have r1 : Vals (V.ref (hp.objs.size + 1) :: vs) (Value.ref (hp.objs.size + 1) :: us) := .cons rfl r
  have r2 := hb.rel r1 rz
  have e1 : (Value.ref (hp.objs.size + 1) :: us).length = n + 1 := r1.length.symm.trans (congrArg Nat.succ l1)
  have e2 : ws.length = ks.length := rz.length.symm.trans l2
  have hus : us.length ≤ sizeLine := by
    rw [← Paired.length r, sizeLine_eq]
    omega
  refine wpAny_call (PySem.OEK.call_kw F.excBase_ValueError (fun Y => PySem.HandSPX.refsVE_contains Y bm hbm) (I1.kIn _ _ hC) (PySem.W.looks_findIn I1.kIn M.ini) (fun self => PySem.W.bind_fn I1.kIn self (beq_iff_eq.mp M.fn)) hus
    (codeAny_mono (F1.run _ X.stack _ _ ⟨Value.ref (hp.objs.size + 1) :: us, ks.zip ws⟩ (g (Value.ref (hp.objs.size + 1) :: us) ws) _ _ (fun _ _ _ => False) (hr.make C us (ks.zip ws)) (I2.env0.make C us (ks.zip ws)) (hb.to _ (Value.ref (hp.objs.size + 1) :: us) ws I2.kIn e1 e2) r2 hq) fun r s' hq' => ?_))
  cases r with
  | error er => exact hx pins σ _ _ er s' I2 hq'
  | ok fl =>
    cases fl with
    | ret u =>
      obtain ⟨v, H', I3, rv, ev, q3⟩ := I2.after hq'
      subst ev
      exact ⟨rv, ⟨V.ref (hp.objs.size + 1), H', I3, rfl, q3⟩⟩
    | next => exact False.elim hq'
    | brk => exact False.elim hq'
    | cont => exact False.elim hq'
theorem pe_mkX (M : OxF X.K C fI) (F1 : FnOk X.prog X.w X.K X.mg X.base CX k fI fd ps sp) (hr : Room (k + 1) X.A) (hg : Gl X x) (hm : X.mg x = some (.ref C)) (hb : KBn X.K fd ps (n + 1) ks g gV) (hx : Passes CX X (fun _ _ _ => False))
    (ha : PA X (e :: es) t) (hkw : PK X kws tk) (hall : (backToKw pos (keywordEach kws X.env)).all (·.1.isSome) = true := by rfl) (hks : (backToKw pos (keywordEach kws X.env)).filterMap (·.1) = ks := by rfl)
    (hdb : (x == ("__debug__" : Str)) = false := by decide) (he : starEach (e :: es) X.env = (false, eval e X.env) :: starEach es X.env := by rfl)
    (hpl : ((backTo pos (starEach (e :: es) X.env)).any (·.1) || (backToKw pos (keywordEach kws X.env)).any (·.1.isNone)) = false := by rfl) :
    PE X (.Call (.Name x p) (e :: es) kws pos) (tMkX C sp gV n ks.length t tk) := by
  refine ⟨fun pins s σ H Q I h => ?_⟩
  refine wpAny_Call_Name_kw (ld_glob I hg hm ?_ hdb)
  refine PySem.W.callWith_KW (h₀ := X.base) I.ok.mod.kin M.oex.kC hall (thn (ha.run pos pins s σ H _ I h) fun us s1 ⟨vs, H1, I1, r, q⟩ => ?_) hpl he
  refine thn (hkw.run pos pins s1 σ H1 _ I1 q) fun ws s2 ⟨zs, H2, I2, rz, l1, l2, ln, q2⟩ => ⟨I2.kIn, ?_⟩
  rw [hks]
  exact run_mkX M F1 hr hb hx I2 r rz l1 l2 ln q2
theorem pe_mkX0 (M : OxF X.K C fI) (F1 : FnOk X.prog X.w X.K X.mg X.base CX k fI fd ps sp) (hr : Room (k + 1) X.A) (hg : Gl X x) (hm : X.mg x = some (.ref C)) (hb : KBn X.K fd ps (0 + 1) ks g gV) (hx : Passes CX X (fun _ _ _ => False))
    (hkw : PK X kws tk) (hall : (backToKw pos (keywordEach kws X.env)).all (·.1.isSome) = true := by rfl) (hks : (backToKw pos (keywordEach kws X.env)).filterMap (·.1) = ks := by rfl)
    (hdb : (x == ("__debug__" : Str)) = false := by decide)
    (hpl : ((backTo pos (starEach [] X.env)).any (·.1) || (backToKw pos (keywordEach kws X.env)).any (·.1.isNone)) = false := by rfl) :
    PE X (.Call (.Name x p) [] kws pos) (tMkX C sp gV 0 ks.length tNil tk) := by
  refine ⟨fun pins s σ H Q I h => ?_⟩
  refine wpAny_Call_Name_kw (ld_glob I hg hm ?_ hdb)
  refine PySem.W.callWith_KW0 (h₀ := X.base) I.ok.mod.kin M.oex.kC hall (thn (hkw.run pos pins s σ H _ I h) fun ws s2 ⟨zs, H2, I2, rz, l1, l2, ln, q2⟩ => ⟨I2.kIn, ?_⟩) hpl
  rw [hks]
  exact run_mkX (us := []) M F1 hr hb hx I2 .nil rz l1 l2 ln q2
end
/-- what is asked of the text for an error class -/
structure OxC (K : PySem.W.Frag) (C : Addr) : Prop where
  oex : OexC K C
  hg : PySem.W.findIn K (.ref C) "__getattribute__" = some (some (.builtin "BaseException.__getattribute__"))
  hk : PySem.W.findIn K (.ref C) "__getattr__" = some none
  hd : PySem.W.hasDictIn K C = true
  ha : PySem.W.findIn K (.ref C) "__class__" = some (some (.builtin "object.__class__"))
  hm : PySem.W.mroIn K C (.type "object") = some true
theorem OxC.mkF {K : PySem.W.Frag} {C fI : Addr} (o : OxC K C) (hn : PySem.W.specialIn K (.builtin "object.__class__") "__get__" = some (some (.builtin "getset_descriptor.__get__"))) (tk : PySem.W.takesIn K (.builtin "object.__class__") = some true)
    (ini : PySem.W.findIn K (.ref C) "__init__" = some (some (.ref fI))) (fn : PySem.W.isFn K (.ref fI) = true) : OxF K C fI := ⟨o.oex, o.hg, o.hk, o.hd, o.ha, hn, tk, o.hm, ini, fn⟩
section
variable {K : PySem.W.Frag}
theorem kbn_of {fd : FuncData} {ps : List Str} {n : Nat} (h : Binds K fd ps []) (hn : ps.length = n) : KBn K fd ps n [] (fun us _ => us) (fun vs _ => vs) where
  to := fun s us ws X l1 l2 => by
    have b := h s us X (by rw [List.append_nil, l1, hn])
    rw [List.append_nil] at b
    exact b
  rel := fun r _ => r
theorem Fun.kbn {x qual : Str} {st : Stmt} {f : Addr} {fd : FuncData} {ps ks : List Str} {n : Nat} {g : List Value → List Value → List Value} {gV : List V → List V → List V} (F : Fun K x qual st f fd)
    (h : ∀ (kV doc pm : Value) (an : Option Addr) (cdv ct : Value) (us ws : List Value), us.length = n → ws.length = ks.length → bindArgs (PySem.W.fnOf x qual (defArgs st) (defBody st) (defScope st) .none kV doc pm an cdv ct) ⟨us, ks.zip ws⟩ = pure (ps.zip (g us ws)))
    (hrel : ∀ {vs : List V} {us : List Value} {zs : List V} {ws : List Value}, Vals vs us → Vals zs ws → Vals (gV vs zs) (g us ws)) : KBn K fd ps n ks g gV := by
  obtain ⟨oc, od, kV, doc, pm, an, cdv, ct, osl, rfl, lk, hcd⟩ := F.ex
  exact ⟨fun s us ws X l1 l2 => .of_eq (h kV doc pm an cdv ct us ws l1 l2), hrel⟩
theorem vals_rev {zs : List V} {ws : List Value} (h : Vals zs ws) : Vals zs.reverse ws.reverse := by
  induction h with
  | nil => exact .nil
  | cons a _ ih =>
    rw [List.reverse_cons, List.reverse_cons]
    exact ih.append (.cons a .nil)
end
def rIntC : List V → Hp → VK → Prop := fun xs H Q => match xs with
  | [.int i] => Q (.int i) H
  | _ => False
theorem cc_int {X : Cx} : CallR X (.type "int") rIntC := call_int1.weak fun xs H Q h => by
  unfold rIntC at h
  split at h
  · exact .inl ⟨_, rfl, h⟩
  · exact h.elim
end L2

/-! Own errors raised and caught: raise C(..), try .. except C as e, isinstance(e, ..), e.f in the suite; calls, methods, makings that let errors pass at the slots. -/
namespace L2
open PySem PySem.Spec PyProof.Rows
/-! ### what is never reached; readings made monotone -/
section
variable {X : Cx}
theorem ps_dead {st : Stmt} : PS X st (fun _ _ _ => False) := ⟨fun _ _ _ _ _ _ h => h.elim⟩
theorem pss_dead {st : List Stmt} : PSs X st (fun _ _ _ => False) := ⟨fun _ _ _ _ _ _ h => h.elim⟩
theorem pe_dead {e : Expr} : PE X e (fun _ _ _ => False) := ⟨fun _ _ _ _ _ _ h => h.elim⟩
theorem PA.mon {es : List Expr} {t : TA} (h : PA X es t) : PA X es (fun σ H Q => ∃ R : List V → Hp → Prop, t σ H R ∧ ∀ vs H', R vs H' → Q vs H') :=
  ⟨fun pos pins s σ H Q I ⟨R, h1, h2⟩ => thn (h.run pos pins s σ H R I h1) fun us s1 ⟨vs, H1, I1, r1, q1⟩ => ⟨vs, H1, I1, r1, h2 vs H1 q1⟩⟩
theorem PE.mon {e : Expr} {t : TE} (h : PE X e t) : PE X e (fun σ H Q => ∃ R : VK, t σ H R ∧ ∀ v H', R v H' → Q v H') :=
  ⟨fun pins s σ H Q I ⟨R, h1, h2⟩ => thn (h.run pins s σ H R I h1) fun u s1 ⟨v, H1, I1, r1, q1⟩ => ⟨v, H1, I1, r1, h2 v H1 q1⟩⟩
end
/-! ### C(..), o.m(..) whose errors pass at the slots -/
def tMakeS (C : Addr) (sp : Sp) (E : St → XK) (t : TA) : TE := fun σ H Q => t σ H fun vs H1 => ∀ x dx, H1 x = none → H1 dx = none → dx ≠ x →
  sp (.ref x :: vs) (upd (upd H1 dx (.own x)) x (.ins C dx [])) (fun v H2 => v = .non ∧ Q (.ref x) H2) (E σ)
def tMethQ (C : Addr) (m : Str) (sp : Sp) (E : St → XK) (ta : TE) (t : TA) : TE := fun σ H Q => ta σ H fun x H1 => ∃ a dx fs, x = .ref a ∧ H1 a = some (.ins C dx fs) ∧ fs.lookup m = none ∧
  t σ H1 fun vs H2 => sp (x :: vs) H2 Q (E σ)
section
variable {X : Cx} {CX : CXT} {k : Nat} {f C : Addr} {fd : FuncData} {ps : List Str} {sp : Sp} {E : St → XK} {x m : Str} {p pos apos : Pos} {e o : Expr} {es : List Expr} {ta : TE} {t : TA}
theorem run_makeS {pins : List (Addr × Obj)} {σ : St} {H : Hp} {s : Shared} {Q : VK} {us : List Value} {vs : List V} (M : Mk X.K C f) (F : FnOk X.prog X.w X.K X.mg X.base CX k f fd ps sp) (hr : Room (k + 1) X.A) (hb : Binds X.K fd ps [])
    (hx : PassesAt CX X σ (E σ)) (I : Inv X pins σ H s) (r : Vals vs us)
    (h : ∀ x dx, H x = none → H dx = none → dx ≠ x → sp (.ref x :: vs) (upd (upd H dx (.own x)) x (.ins C dx [])) (fun v H2 => v = .non ∧ Q (.ref x) H2) (E σ)) :
    wpAny (model X.prog X.w) X.A (call (.ref C) us) (EP X pins σ Q) X.xe s := by
  have hq := h (s.heap.objs.size + 1) s.heap.objs.size (I.hok.fresh (Nat.le_succ _)) (I.hok.fresh (Nat.le_refl _)) (Nat.ne_of_lt (Nat.lt_succ_self _))
  have J := Inv.made (C := C) I
  have r2 : Vals (V.ref (s.heap.objs.size + 1) :: vs) (Value.ref (s.heap.objs.size + 1) :: us) := .cons rfl r
  have hl : (Value.ref (s.heap.objs.size + 1) :: us).length = ps.length := by rw [← F.len _ _ _ _ hq]; exact r2.length.symm
  have b := hb _ (Value.ref (s.heap.objs.size + 1) :: us) J.kIn (by rw [List.append_nil]; exact hl)
  rw [List.append_nil] at b
  refine wpAny_call (make_map (f := f) I.kIn M.makes M.init (beq_iff_eq.mp M.fn) (codeAny_mono (F.run _ X.stack _ _ ⟨Value.ref (s.heap.objs.size + 1) :: us, []⟩ (Value.ref (s.heap.objs.size + 1) :: us) _ _ (E σ) (hr.make C us []) (J.env0.make C us []) b r2 hq) fun res s' z => ?_))
  cases res with
  | error er => exact hx pins _ _ er s' J z
  | ok fl =>
    cases fl with
    | ret u =>
      obtain ⟨v, H', I3, rv, ev, q3⟩ := J.after z
      subst ev
      exact ⟨rv, ⟨V.ref (s.heap.objs.size + 1), H', I3, rfl, q3⟩⟩
    | next => exact z.elim
    | brk => exact z.elim
    | cont => exact z.elim
theorem pe_makeS (M : Mk X.K C f) (F : FnOk X.prog X.w X.K X.mg X.base CX k f fd ps sp) (hr : Room (k + 1) X.A) (hg : Gl X x) (hm : X.mg x = some (.ref C)) (hb : Binds X.K fd ps []) (hx : ∀ σ, PassesAt CX X σ (E σ))
    (ha : PA X (e :: es) t) (hdb : (x == ("__debug__" : Str)) = false := by decide) (he : starEach (e :: es) X.env = (false, eval e X.env) :: starEach es X.env := by rfl) (hpl : (backTo pos (starEach es X.env)).any (·.1) = false := by rfl) :
    PE X (.Call (.Name x p) (e :: es) [] pos) (tMakeS C sp E t) := by
  refine ⟨fun pins s σ H Q I h => wpAny_Call_Name_kw (ld_glob I hg hm ?_ hdb)⟩
  exact PySem.W.callWith_K (h₀ := X.base) I.ok.mod.kin M.kp (thn (ha.run pos pins s σ H _ I h) fun us s1 ⟨vs, H1, I1, r, q⟩ => ⟨I1.kIn, run_makeS M F hr hb (hx σ) I1 r q⟩) he hpl
theorem pe_methX {pl : Sem Bool} (he : PE X o ta) (c : Cls X.K C) (hm : Meth X.K C m f) (F : FnOk X.prog X.w X.K X.mg X.base CX k f fd ps sp) (hr : Room k X.A) (hb : Binds X.K fd ps []) (hx : ∀ σ, PassesAt CX X σ (E σ)) (ha : PA X (e :: es) t)
    (hst : starEach (e :: es) X.env = (false, eval e X.env) :: starEach es X.env := by rfl) (hpl : (backTo pos (starEach es X.env)).any (·.1) = false := by rfl)
    (ht : eval (.Call (.Attribute o m apos) (e :: es) [] pos) X.env = (do
      let ov ← eval o X.env
      standAt apos.atName
      let (f, first) ← holding [ov] (getMethod ov m pl)
      callWith pos f first (backTo pos (starEach (e :: es) X.env)) (backToKw pos (keywordEach [] X.env))) := by rfl) :
    PE X (.Call (.Attribute o m apos) (e :: es) [] pos) (tMethQ C m sp E ta t) := by
  refine ⟨fun pins s σ H Q I h => PySem.W.methodCall_KW (pl := pl) (thn (he.run pins s σ H _ I h) fun u s1 ⟨x, H1, I1, rx, a, dx, fs, ex, ea, l, q⟩ => ?_) ht⟩
  subst ex
  obtain rfl : u = Value.ref a := rx
  refine getmeth_ok I1 ea c hm l (PySem.W.callWith_K (first := [.ref a]) (h₀ := X.base) I.ok.mod.kin hm.kp (thn (ha.run pos pins s1 σ H1 _ I1 q) fun us s2 ⟨vs, H2, I2, r, q2⟩ => ⟨I2.kIn, ?_⟩) hst hpl)
  exact run_fnS (us := .ref a :: us) (vs := .ref a :: vs) F hr hb (hx σ) I2 (.cons rfl r) q2
theorem pe_methX0 {pl : Sem Bool} (he : PE X o ta) (c : Cls X.K C) (hm : Meth X.K C m f) (F : FnOk X.prog X.w X.K X.mg X.base CX k f fd ps sp) (hr : Room k X.A) (hb : Binds X.K fd ps []) (hx : ∀ σ, PassesAt CX X σ (E σ))
    (ht : eval (.Call (.Attribute o m apos) [] [] pos) X.env = (do
      let ov ← eval o X.env
      standAt apos.atName
      let (f, first) ← holding [ov] (getMethod ov m pl)
      callWith pos f first (backTo pos (starEach [] X.env)) (backToKw pos (keywordEach [] X.env))) := by rfl) :
    PE X (.Call (.Attribute o m apos) [] [] pos) (tMethQ C m sp E ta tNil) := by
  refine ⟨fun pins s σ H Q I h => PySem.W.methodCall_KW (pl := pl) (thn (he.run pins s σ H _ I h) fun u s1 ⟨x, H1, I1, rx, a, dx, fs, ex, ea, l, q⟩ => ?_) ht⟩
  subst ex
  obtain rfl : u = Value.ref a := rx
  exact getmeth_ok I1 ea c hm l (PySem.W.callWith_K0 (first := [.ref a]) I1.kIn hm.kp (run_fnS (us := [.ref a]) (vs := [.ref a]) F hr hb (hx σ) I1 (.cons rfl .nil) q))
end
/-! ### raise -/
/-- an error's __init__: the arguments ws become the fields fs in a new dict -/
def spIx (C : Addr) (G : List V → List (Str × V) → Prop) : Sp := fun vs H Q _ => ∃ a ws fs, vs = .ref a :: ws ∧ ws.length ≤ 1000 ∧ G ws fs ∧ H a = some (exo a C none) ∧
  ∀ H' d, SameB a H H' → H d = none → d ≠ a → H' a = some (exo a C (some d)) → H' d = some (exd d fs) → Q .non H'
def tRaise (C : Addr) (G : List V → List (Str × V) → Prop) (W : WX) (ta : TA) : TS := fun _ σ H => ta σ H fun vs H1 => ∃ fs, vs.length ≤ 1000 ∧ G vs fs ∧
  ∀ H' d, Same H1 H' → H1 d = none → H' d = some (.xd fs) → W (.ref C) (some d) σ H'
section
variable {X : Cx} {CX : CXT} {W : WX} {k : Nat} {fI C : Addr} {fd : FuncData} {ps : List Str} {G : List V → List (Str × V) → Prop} {x : Str} {p pos pos' : Pos} {e : Expr} {es : List Expr} {ta : TA}
theorem ps_raiseX (hc : X.calm = true) (tk : Takes X W) (T : OxF X.K C fI) (F1 : FnOk X.prog X.w X.K X.mg X.base CX k fI fd ps (spIx C G)) (hr : Room (k + 1) X.A) (hb : Binds X.K fd ps []) (hx : Passes CX X (fun _ _ _ => False)) (hg : Gl X x) (hm : X.mg x = some (.ref C))
    (ha : PA X (e :: es) ta) (hdb : (x == ("__debug__" : Str)) = false := by decide) (he : starEach (e :: es) X.env = (false, eval e X.env) :: starEach es X.env := by rfl) (hpl : (backTo pos (starEach es X.env)).any (·.1) = false := by rfl) :
    PS X (.Raise (some (.Call (.Name x p) (e :: es) [] pos)) none pos') (tRaise C G W ta) :=
  (ps_raise hc tk (pmk_oex T.oex T.ini (beq_iff_eq.mp T.fn) F1 hr hb .nil hx hg hm ha.mon hdb he hpl)).weak fun D σ H h => by
    refine ⟨_, h, fun vs H1 ⟨fs, hl, g, q⟩ => ⟨hl, fun a ha1 => ?_⟩⟩
    rw [List.append_nil]
    refine ⟨a, vs, fs, rfl, hl, g, upd_same, fun H2 d sb hd hda e1 e2 => ⟨rfl, d, fs, e1, e2, upd_none hd, q _ d (fun b o hb => ?_) (upd_none hd) upd_same⟩⟩
    have hba : b ≠ a := ne_of_none hb ha1
    have hbd : b ≠ d := ne_of_none hb (upd_none hd)
    rw [upd_ne hbd, del_ne hba]
    exact sb b o hba (upd_new hb ha1)
end
/-! ### the caught error -/
/-- in X the error at a is pinned: of the class cls, with the dict at d -/
def Caught (X : Cx) (a : Addr) (cls : Value) (d : Option Addr) : Prop := ∃ oe, (a, oe) ∈ X.pn ∧ Zc cls d oe ∧ ∃ vs, oe.data = .fields vs
theorem caught_suite {X : Cx} {a : Addr} {oe : Obj} {cls : Value} {d : Option Addr} {pn : List (Addr × Obj)} (hz : Zc cls d oe) (hf : ∃ vs, oe.data = .fields vs) : Caught (X.suite a ((a, oe) :: pn)) a cls d := ⟨oe, List.mem_cons_self, hz, hf⟩
/-- what the text says of an error class, for isinstance and the fields -/
structure XcC (K : PySem.W.Frag) (C : Addr) : Prop where
  hg : PySem.W.findIn K (.ref C) "__getattribute__" = some (some (.builtin "BaseException.__getattribute__"))
  hk : PySem.W.findIn K (.ref C) "__getattr__" = some none
  ex : PySem.W.subIn K (.ref C) (.type "BaseException") = some true
  hd : PySem.W.hasDictIn K C = true
  ha : PySem.W.findIn K (.ref C) "__class__" = some (some (.builtin "object.__class__"))
  hn : PySem.W.specialIn K (.builtin "object.__class__") "__get__" = some (some (.builtin "getset_descriptor.__get__"))
  tk : PySem.W.takesIn K (.builtin "object.__class__") = some true
  hm : PySem.W.mroIn K C (.type "object") = some true
theorem OxF.xc {K : PySem.W.Frag} {C fI : Addr} (o : OxF K C fI) : XcC K C := ⟨o.hg, o.hk, o.oex.exC, o.hd, o.ha, o.hn, o.tk, o.hm⟩
def DictAt (H : Hp) (d : Option Addr) (fs : List (Str × V)) : Prop := match d with | none => fs = [] | some dd => H dd = some (.xd fs)
section
variable {X : Cx} {pins : List (Addr × Obj)} {σ : St} {H : Hp} {s : Shared} {a C : Addr} {d : Option Addr} {fs : List (Str × V)}
theorem Caught.inst (c : Caught X a (.ref C) d) (I : Inv X pins σ H s) (h : DictAt H d fs) :
    ∃ ox od, PySem.W.InstAt s.heap a ox C od ∧ ∀ f v, fs.lookup f = some v → ∃ o u, od = some o ∧ PySem.W.lookIn f o = some (some u) ∧ RelV v u := by
  obtain ⟨oe, hp, hz, vs, hv⟩ := c
  have g := (I.pin (a, oe) (List.mem_append_left _ hp)).1
  have nc : PySem.W.notCls oe = true := by unfold PySem.W.notCls; rw [hv] <;> rfl
  cases d with
  | none =>
    subst h
    exact ⟨oe, none, ⟨g, hz.1, nc, by rw [hz.2]; trivial⟩, fun f v e => by cases e⟩
  | some dd =>
    have hx : ObjOk X.prog X.w H s.heap dd (.xd fs) := I.hok dd _ h
    obtain ⟨mA, hns, hr⟩ := hx
    obtain ⟨od, ho, hl⟩ := lookIn_ns hns
    refine ⟨oe, some od, ⟨g, hz.1, nc, by rw [hz.2]; exact ho⟩, fun f v e => ?_⟩
    obtain ⟨u, hu, ru⟩ := RelO.some_of (v := v) (o := mA f) (by rw [← e]; exact hr f)
    exact ⟨od, u, rfl, by rw [hl, hu], ru⟩
end
/-- isinstance(err, c), isinstance(err, (c, ..)) -/
def rIsQ (K : PySem.W.Frag) (a : Addr) (cls : Value) (d : Option Addr) : List V → Hp → VK → Prop := fun xs H Q => match xs with
  | [.ref b, .ref D] => ∃ C fs r, b = a ∧ cls = .ref C ∧ XcC K C ∧ DictAt H d fs ∧
      ((PySem.W.kitOne K (.ref C) (.ref D) = some r ∧ Q (.bl r) H) ∨ ∃ cs : List Addr, H D = some (.tup (cs.map V.ref)) ∧ PySem.W.kitAny K (.ref C) (cs.map Value.ref) = some r ∧ Q (.bl r) H)
  | _ => False
theorem vals_refs : ∀ {cs : List Addr} {us : List Value}, Vals (cs.map V.ref) us → us = cs.map Value.ref
  | [], _, .nil => rfl
  | c :: cs, _, .cons (b := u) r t => by
    obtain rfl : u = Value.ref c := r
    rw [vals_refs t]; rfl
section
variable {X : Cx} {a : Addr} {cls : Value} {d : Option Addr} {e : Expr} {te : TE} {pos : Pos} {f : Str}
theorem cc_isQ {K : PySem.W.Frag} (c : Caught X a cls d) (hK : X.K = K := by rfl) : CallR X (.builtin "isinstance") (rIsQ K a cls d) := by
  subst hK
  intro pins s σ H xs us Q I r h
  unfold rIsQ at h
  split at h
  · rename_i b D
    obtain ⟨C, fs, rb, rfl, rfl, T, hd, h⟩ := h
    obtain ⟨u1, u2, rfl, r1, r2⟩ := vals2 r
    cases (show u1 = Value.ref _ from r1)
    cases (show u2 = Value.ref _ from r2)
    obtain ⟨ox, od, J, _⟩ := c.inst I hd
    rcases h with ⟨e, q⟩ | ⟨cs, hT, e, q⟩
    · exact PySem.W.kia_one (PySem.W.kitx_excO T.hg T.hk T.ex T.hd T.ha T.hn T.tk T.hm) I.kIn J e (fun z => nomatch z) fun tk => ⟨.bl rb, H, I.tok tk, rfl, q⟩
    · obtain ⟨_, its, rv, o, h1, h2, n, h3⟩ := (show ObjOk X.prog X.w H s.heap D (.tup (cs.map V.ref)) from I.hok D _ hT)
      have e3 := vals_refs rv
      subst e3
      obtain ⟨oc, od', dt, sl⟩ := o
      simp only at h2 h3
      subst h2 h3
      exact PySem.W.kia_tup (PySem.W.kitx_excO T.hg T.hk T.ex T.hd T.ha T.hn T.tk T.hm) I.kIn J h1 e (fun z => nomatch z) fun tk => ⟨.bl rb, H, I.tok tk, rfl, q⟩
  · exact h.elim
/-- err.f -/
def tFldQ (K : PySem.W.Frag) (a : Addr) (cls : Value) (d : Option Addr) (te : TE) (f : Str) : TE := fun σ H Q => te σ H fun x H1 => ∃ C fs v, x = .ref a ∧ cls = .ref C ∧ XcC K C ∧ PySem.W.findIn K (.ref C) f = some none ∧ DictAt H1 d fs ∧ fs.lookup f = some v ∧ Q v H1
theorem ce_fldQ {K : PySem.W.Frag} (c : Caught X a cls d) (he : PE X e te) (hb : attributeBase e f X.env (eval e X.env) = eval e X.env) (hK : X.K = K := by rfl) : PE X (.Attribute e f pos) (tFldQ K a cls d te f) := by
  subst hK
  refine ⟨fun pins s σ H Q I h => attr_of hb (thn (he.run pins s σ H _ I h) fun u s1 ⟨x, H1, I1, rx, C, fs, v, ex, ec, T, hno, hd, l, q⟩ => ?_)⟩
  subst ex
  obtain rfl : u = Value.ref a := rx
  subst ec
  obtain ⟨ox, od, J, k⟩ := c.inst I1 hd
  obtain ⟨o, u, rfl, hl, ru⟩ := k f v l
  exact HandSPX.exc_get I1.kIn J T.hg T.hk T.ex (PySem.W.findObj_own T.hd hno rfl hl) (handed_of ru) ⟨v, H1, I1.tok _, ru, q⟩
end
end L2

/-! A def called in an except suite with the caught error: it knows the error's class and dict. -/
namespace L2
open PySem PySem.Spec PyProof.Rows L2H
theorem Room.marked {k : Nat} {A : Around} {h : Option Value} (r : Room k A) : RoomH k (A.mark h) := ⟨r.dp, r.un⟩
structure FnE (P : Program) (w : World) (K : PySem.W.Frag) (mg : Str → Option Value) (base : Heap) (k : Nat) (f : Addr) (fd : FuncData) (ps : List Str) (sp : Addr → Value → Option Addr → Sp) : Prop where
  len : ∀ a c d vs H Q E, sp a c d vs H Q E → vs.length = ps.length
  run : ∀ (A : Around) (outer : List Env) (s : Shared) (H : Hp) (args : Args) (us : List Value) (vs : List V) (Q : VK) (p : Addr × Obj) (c : Value) (d : Option Addr), RoomH k A → PinOk outer H s p → Zc c d p.2 → (∃ ws, p.2.data = .fields ws) → Env0 P w K mg base A outer s H →
    BindsTo s fd args (ps.zip us) → Vals vs us → sp p.1 c d vs H Q E0 → codeAny (model P w) A (.call (.ref f) args) (CR CX0 outer P w H s Q E0) s
section
variable {P : Program} {w : World} {K : PySem.W.Frag} {mg : Str → Option Value} {base : Heap}
theorem Fun.okE {x qual : Str} {st : Stmt} {f : Addr} {fd : FuncData} {N ps : List Str} {k : Nat} {sp : Addr → Value → Option Addr → Sp} (F : Fun K x qual st f fd) (S : FnScope N ps (defScope st)) (len : ∀ a c d vs H Q E, sp a c d vs H Q E → vs.length = ps.length)
    (hbody : ∀ (cdv : Value) (A : Around) (outer : List Env) (s : Shared) (H : Hp) (vs : List V) (Q : VK) (p : Addr × Obj) (c : Value) (d : Option Addr), Caught (cxH CX0 P w K mg base N qual (defScope st) f cdv A outer s H E0 p) p.1 c d → RoomH k (A.deeper (envOfC qual (defScope st) s.heap.objs.size f cdv)) → sp p.1 c d vs H Q E0 →
      ∃ t, PSs (cxH CX0 P w K mg base N qual (defScope st) f cdv A outer s H E0 p) (defBody st) t ∧ t { nx := fun _ H' => Q .non H', rt := Q } (L2.start N vs) H) : FnE P w K mg base (k + 1) f fd ps sp := by
  obtain ⟨oc, od, kV, doc, pm, an, cdv, ct, osl, rfl, lk, hcd⟩ := F.ex
  refine ⟨len, fun A outer s H args us vs Q p c d hr hpin hz hf e0 hb r hsp => ?_⟩
  have hl := len _ _ _ _ _ _ _ hsp
  have kb : ∀ b o, base.get? b = some o → s.heap.get? b = some o := fun b o e => (e0.bs b o e).1
  have KX : K.In s.heap := e0.mod.kin.keeps kb
  have lim : s.heap.NoLimit := e0.mod.nolimit.keeps kb
  have hk : ∀ y ∈ ps.zip us, (defScope st).names.lookup y.1 = some .local ∨ ((defScope st).names.lookup y.1 = some .cell ∧ ((cellsFrom (s.heap.objs.size + 1) (defScope st).names []).lookup y.1).isSome = true) := fun ⟨n, v⟩ hy =>
    (S.par n (List.of_mem_zip hy).1).elim .inl fun q => .inr ⟨q, PySem.W.cellsFrom_some _ _ _ (.inl q)⟩
  refine codeAny_call_function hr.depth (KX _ _ lk) rfl S.co S.gen rfl (PySem.W.codeRec_of KX hcd) (hb _ _ _ _ (wpAny_newFunctionEnv_cells S.kind hk fun env he s1 x => ?_))
  subst he
  refine ⟨lim.keeps x.toInCall.keep, codeAny_func ?_⟩
  obtain ⟨t, ht, hq⟩ := hbody cdv A outer s H vs Q p c d ⟨p.2, by show p ∈ [p]; simp, hz, hf⟩ (hr.deeper _) hsp
  have I := inv_startH (CX := CX0) (E := E0) S hpin e0 hl r x
  refine wpAny_mono (ht.run [] s1 (L2.start N vs) H _ I hq) (fun fl s' hs => ?_) fun e s' hs => hs
  cases fl with
  | ret u =>
    obtain ⟨v, σ', H', J, rv, q⟩ := hs
    exact ⟨v, H', J.os, J.bare, J.base, J.hok, rv, q⟩
  | next =>
    obtain ⟨σ', H', J, q⟩ := hs
    exact ⟨V.non, H', J.os, J.bare, J.base, J.hok, rfl, q⟩
  | brk => obtain ⟨_, _, _, q⟩ := hs; exact q.elim
  | cont => obtain ⟨_, _, _, q⟩ := hs; exact q.elim
end
def tCallE (sp : Addr → Value → Option Addr → Sp) (a : Addr) (cls : Value) (d : Option Addr) (t : TA) : TE := fun σ H Q => t σ H fun vs H1 => sp a cls d vs H1 Q E0
section
variable {X : Cx} {k : Nat} {f a : Addr} {cls : Value} {d : Option Addr} {fd : FuncData} {ps : List Str} {sp : Addr → Value → Option Addr → Sp} {x : Str} {p pos : Pos} {e : Expr} {es : List Expr} {t : TA}
theorem pe_callE (c : Caught X a cls d) (F : FnE X.prog X.w X.K X.mg X.base k f fd ps sp) (hr : RoomH k X.A) (hg : Gl X x) (hm : X.mg x = some (.ref f)) (hk : PySem.W.keepIn X.K (.ref f) = true) (hb : Binds X.K fd ps [])
    (ha : PA X (e :: es) t) (hdb : (x == ("__debug__" : Str)) = false := by decide) (he : starEach (e :: es) X.env = (false, eval e X.env) :: starEach es X.env := by rfl) (hpl : (backTo pos (starEach es X.env)).any (·.1) = false := by rfl) :
    PE X (.Call (.Name x p) (e :: es) [] pos) (tCallE sp a cls d t) := by
  refine ⟨fun pins s σ H Q I h => wpAny_Call_Name_kw (ld_glob I hg hm ?_ hdb)⟩
  refine PySem.W.callWith_K (h₀ := X.base) I.ok.mod.kin hk (thn (ha.run pos pins s σ H _ I h) fun us s1 ⟨vs, H1, I1, r, q⟩ => ⟨I1.kIn, ?_⟩) he hpl
  obtain ⟨oe, hp, hz, hf⟩ := c
  have hl : us.length = ps.length := by rw [← r.length]; exact F.len _ _ _ _ _ _ _ q
  have b := hb s1 us I1.kIn (by rw [List.append_nil]; exact hl)
  rw [List.append_nil] at b
  have P1 := I1.pin (a, oe) (List.mem_append_left _ hp)
  have hpin : PinOk X.stack H1 s1 (a, oe) := ⟨P1.1, P1.2.1, fun z => (List.mem_cons.mp (I1.stkSub a z)).elim P1.2.2.1 P1.2.2.2.1, P1.2.2.2.2⟩
  refine wpAny_call (codeAny_mono (F.run X.A X.stack s1 H1 ⟨us, []⟩ us vs Q (a, oe) cls d hr hpin hz hf I1.env0 b r q) fun res s' z => ?_)
  cases res with
  | error er => exact (show False from z).elim
  | ok fl =>
    cases fl with
    | ret u => exact I1.after z
    | next => exact z.elim
    | brk => exact z.elim
    | cont => exact z.elim
end
end L2

/-! Comprehensions whose turns only make objects: what each turn gave is told by R, which stays true as the heap grows. -/
namespace L2
open PySem PySem.Spec PyProof.Rows
theorem same_del {H H' : Hp} {D : Addr} (h : ∀ b o, b ≠ D → H b = some o → H' b = some o) : Same (del H D) (del H' D) := fun b o e => by
  by_cases z : b = D
  · subst z; rw [del_same] at e; cases e
  · rw [del_ne z] at e ⊢; exact h b o z e
theorem del_sub {H : Hp} {D : Addr} : Same (del H D) H := fun b o e => by
  by_cases z : b = D
  · subst z; rw [del_same] at e; cases e
  · rw [del_ne z] at e; exact e
theorem same_into {H H' : Hp} {D : Addr} (h : Same H H') (hD : H D = none) : Same H (del H' D) := fun b o e => by
  rw [del_ne (ne_of_none e hD)]; exact h b o e
section
variable {J : It} {n : Nat} {G : Hp → Prop} {Y : Nat → Hp → V → Hp → Prop}
theorem lc_opt (w : Walk J n G Y) {g : TG} {tt : TT} {te : TE} {vs : List Nat} {σ : St} {H1 : Hp} {D : Addr} {Qd : Hp → Prop} (R : Nat → Option V → Hp → Prop) (hR : ∀ i o H H', Same H H' → R i o H → R i o H') (hD : H1 D = none) (hn : n ≤ 16000000)
    (hG : ∀ H, Same H1 H → G H)
    (hs : ∀ i x H H' (Nx : V → Hp → Prop) (Nz : Hp → Prop), i < n → Same H1 H → Y i H x H' → (∀ y H4, Same H H4 → R i (some y) (del H4 D) → Nx y H4) → (∀ H4, Same H H4 → R i none (del H4 D) → Nz H4) →
      g x (wipe σ vs) H' fun σ2 H2 => wipe σ2 vs = wipe σ vs ∧ tt σ2 H2 fun b H3 => if b = true then te σ2 H3 Nx else Nz H3)
    (hd : ∀ H (os : List (Option V)), os.length = n → (∀ i o, os[i]? = some o → R i o H) → Same H1 H → H D = some (.lst (os.filterMap id)) → Qd H) :
    ∃ W : Nat → Nat → Hp → Prop, (∃ m, W 0 m (upd H1 D (.lst []))) ∧ ∀ i m H, W i m H →
      (J.stop i H ∧ Qd H) ∨ (J.go i H ∧ ∃ Nx : Hp → Prop, (∀ H', Nx H' → ∃ m', m' < m ∧ W (i + 1) m' H') ∧ ∀ x H', J.yld i H x H' → g x (wipe σ vs) H' fun σ2 H2 => wipe σ2 vs = wipe σ vs ∧ tt σ2 H2 fun b H3 =>
        if b = true then te σ2 H3 fun y H4 => ∃ acc, H4 D = some (.lst acc) ∧ acc.length < sizeLine ∧ Nx (upd H4 D (.lst (acc ++ [y]))) else Nx H3) := by
  refine lc_it w (fun i H => Same H1 H ∧ ∃ os : List (Option V), os.length = i ∧ H D = some (.lst (os.filterMap id)) ∧ ∀ j o, os[j]? = some o → R j o (del H D)) ⟨Same.new hD, [], rfl, upd_same, fun j o e => by simp at e⟩ (fun i H _ p => hG H p.1) ?_ ?_
  · rintro i x H H' hi ⟨s1, os, hl, hD1, r⟩ y
    have old : ∀ H4, Same H H4 → ∀ acc : HO, ∀ j o, os[j]? = some o → R j o (del (upd H4 D acc) D) := fun H4 s4 acc j o e => hR j o _ _ (same_del fun b u nb hb => by rw [upd_ne nb]; exact s4 b u hb) (r j o e)
    refine hs i x H H' _ _ hi s1 y (fun y H4 s4 ry => ⟨os.filterMap id, s4 _ _ hD1, ?_, (s1.trans s4).wr hD, os ++ [some y], by simp [hl], ?_, fun j o e => ?_⟩) (fun H4 s4 ry => ⟨s1.trans s4, os ++ [none], by simp [hl], ?_, fun j o e => ?_⟩)
    · have := List.length_filterMap_le id os; rw [sizeLine_eq]; omega
    · rw [upd_same, List.filterMap_append]; rfl
    · by_cases hj : j < os.length
      · rw [List.getElem?_append_left hj] at e; exact old H4 s4 _ j o e
      · have hj2 : j = i := by
          have := (List.getElem?_eq_some_iff.mp e).1
          rw [List.length_append, List.length_cons, List.length_nil] at this; omega
        rw [List.getElem?_append_right (by omega), hj2, hl, Nat.sub_self] at e
        cases (Option.some.inj e : some y = o)
        rw [hj2]
        exact hR i _ _ _ (same_del fun b u nb hb => by rw [upd_ne nb]; exact hb) ry
    · rw [s4 _ _ hD1, List.filterMap_append]; simp
    · by_cases hj : j < os.length
      · rw [List.getElem?_append_left hj] at e; exact hR j o _ _ (same_del fun b u nb hb => s4 b u hb) (r j o e)
      · have hj2 : j = i := by
          have := (List.getElem?_eq_some_iff.mp e).1
          rw [List.length_append, List.length_cons, List.length_nil] at this; omega
        rw [List.getElem?_append_right (by omega), hj2, hl, Nat.sub_self] at e
        cases (Option.some.inj e : none = o)
        rw [hj2]
        exact ry
  · rintro H ⟨s1, os, hl, hD1, r⟩
    exact hd H os hl (fun i o e => hR i o _ _ del_sub (r i o e)) s1 hD1
theorem lc_map (w : Walk J n G Y) {g : TG} {tt : TT} {te : TE} {vs : List Nat} {σ : St} {H1 : Hp} {D : Addr} {Qd : Hp → Prop} (R : Nat → V → Hp → Prop) (hR : ∀ i o H H', Same H H' → R i o H → R i o H') (hD : H1 D = none) (hn : n ≤ 16000000)
    (hG : ∀ H, Same H1 H → G H)
    (hs : ∀ i x H H' (Nx : V → Hp → Prop) (Nz : Hp → Prop), i < n → Same H1 H → Y i H x H' → (∀ y H4, Same H H4 → R i y (del H4 D) → Nx y H4) →
      g x (wipe σ vs) H' fun σ2 H2 => wipe σ2 vs = wipe σ vs ∧ tt σ2 H2 fun b H3 => if b = true then te σ2 H3 Nx else Nz H3)
    (hd : ∀ H (ys : List V), ys.length = n → (∀ i y, ys[i]? = some y → R i y H) → Same H1 H → H D = some (.lst ys) → Qd H) :
    ∃ W : Nat → Nat → Hp → Prop, (∃ m, W 0 m (upd H1 D (.lst []))) ∧ ∀ i m H, W i m H →
      (J.stop i H ∧ Qd H) ∨ (J.go i H ∧ ∃ Nx : Hp → Prop, (∀ H', Nx H' → ∃ m', m' < m ∧ W (i + 1) m' H') ∧ ∀ x H', J.yld i H x H' → g x (wipe σ vs) H' fun σ2 H2 => wipe σ2 vs = wipe σ vs ∧ tt σ2 H2 fun b H3 =>
        if b = true then te σ2 H3 fun y H4 => ∃ acc, H4 D = some (.lst acc) ∧ acc.length < sizeLine ∧ Nx (upd H4 D (.lst (acc ++ [y]))) else Nx H3) := by
  refine lc_opt w (fun i o H => ∃ y, o = some y ∧ R i y H) (fun i o H H' e ⟨y, h1, h2⟩ => ⟨y, h1, hR i y H H' e h2⟩) hD hn hG (fun i x H H' Nx Nz hi s1 y h1 h2 => hs i x H H' Nx Nz hi s1 y fun y H4 s4 r => h1 y H4 s4 ⟨y, rfl, r⟩) ?_
  intro H os hl r s1 hd1
  have key : ∀ l : List (Option V), (∀ o ∈ l, ∃ y, o = some y) → (l.filterMap id).length = l.length ∧ ∀ i : Nat, (l.filterMap id)[i]? = (l[i]?).bind id := by
    intro l
    induction l with
    | nil => intro _; exact ⟨rfl, fun i => by simp⟩
    | cons a l ih =>
      intro h
      obtain ⟨y, rfl⟩ := h a List.mem_cons_self
      obtain ⟨h1, h2⟩ := ih fun o ho => h o (List.mem_cons_of_mem _ ho)
      refine ⟨by simp [h1], fun i => ?_⟩
      cases i with
      | zero => rfl
      | succ i => simpa using h2 i
  obtain ⟨k1, k2⟩ := key os fun o ho => by
    obtain ⟨i, hi, e⟩ := List.getElem_of_mem ho
    obtain ⟨y, h, _⟩ := r i o (by rw [List.getElem?_eq_getElem hi, e])
    exact ⟨y, h⟩
  refine hd H (os.filterMap id) (by rw [k1, hl]) (fun i y e => ?_) s1 hd1
  rw [k2] at e
  cases ho : os[i]? with
  | none => rw [ho] at e; cases e
  | some o =>
    obtain ⟨z, rfl, hz⟩ := r i o ho
    rw [ho] at e
    cases (Option.some.inj e : z = y)
    exact hz
end
/-- the values are those of f -/
theorem list_of {α : Type} {ys : List α} {n : Nat} {f : Nat → α} (hl : ys.length = n) (h : ∀ i y, ys[i]? = some y → y = f i) : ys = (List.range n).map f := by
  apply List.ext_getElem?
  intro i
  rw [List.getElem?_map]
  by_cases hi : i < n
  · have e : ys[i]? = some (ys[i]'(by omega)) := List.getElem?_eq_getElem (by omega)
    rw [e, h i _ e, List.getElem?_range hi]; rfl
  · rw [List.getElem?_eq_none (by omega), List.getElem?_eq_none (by simp; omega)]; rfl
theorem list_of_map {α β : Type} {ys : List β} {xs : List α} {f : α → β} (hl : ys.length = xs.length) (h : ∀ (i : Nat) (y : β) (x : α), ys[i]? = some y → xs[i]? = some x → y = f x) : ys = xs.map f := by
  apply List.ext_getElem?
  intro i
  rw [List.getElem?_map]
  by_cases hi : i < xs.length
  · have e : ys[i]? = some (ys[i]'(by omega)) := List.getElem?_eq_getElem (by omega)
    have e2 : xs[i]? = some xs[i] := List.getElem?_eq_getElem hi
    rw [e, e2, h i _ _ e e2]; rfl
  · rw [List.getElem?_eq_none (by omega), List.getElem?_eq_none (by omega)]; rfl
end L2

/-! x in y, x not in y: a sign in a text, a flat value in a list or tuple. -/
namespace L2
open PySem PySem.Spec PyProof.Rows
theorem bne_f (b : Bool) : (false != b) = b := by cases b <;> rfl
theorem bne_t (b : Bool) : (true != b) = !b := by cases b <;> rfl
def rInC (K : PySem.W.Frag) (neg : Bool) : R2 := fun x y H Q => match y with
  | .str z => ∃ c : Nat, x = .str ⟨#[c]⟩ ∧ Q (.bl (neg != decide (c ∈ z.cps.toList))) H
  | .ref p => ∃ xs, (SqL K H p xs ∨ SqT K H p xs) ∧ flatV x = true ∧ xs.all flatV = true ∧ Q (.bl (neg != inV x xs)) H
  | _ => False
section
variable {X : Cx}
theorem oc_in {K : PySem.W.Frag} (hK : X.K = K := by rfl) : OpR X (compareOp .In) (rInC K false) := hK ▸ (op_in_sign.or op_in_seq).weak fun x y H Q h => by
  cases y <;> first | exact False.elim h | skip
  · obtain ⟨c, h1, h2⟩ := h; exact .inl ⟨c, _, h1, rfl, by simpa using h2⟩
  · obtain ⟨xs, h1, h2, h3, h4⟩ := h; exact .inr ⟨_, xs, rfl, h1, h2, h3, by simpa using h4⟩
theorem oc_notIn {K : PySem.W.Frag} (hK : X.K = K := by rfl) : OpR X (compareOp .NotIn) (rInC K true) := hK ▸ (op_notIn_sign.or op_notIn_seq).weak fun x y H Q h => by
  cases y <;> first | exact False.elim h | skip
  · obtain ⟨c, h1, h2⟩ := h; exact .inl ⟨c, _, h1, rfl, by simpa using h2⟩
  · obtain ⟨xs, h1, h2, h3, h4⟩ := h; exact .inr ⟨_, xs, rfl, h1, h2, h3, by simpa using h4⟩
theorem pe_globE {x : Str} {v : V} {pos : Pos} (hg : Gl X x) (h : ∃ u, X.mg x = some u ∧ RelV v u) (hdb : (x == ("__debug__" : Str)) = false := by decide) : PE X (.Name x pos) (fun _ H Q => Q v H) := by
  obtain ⟨u, h1, h2⟩ := h
  exact pe_glob hg h1 h2 hdb
end
section
variable {J : It} {n : Nat} {G : Hp → Prop} {Y : Nat → Hp → V → Hp → Prop}
/-- a comprehension without ifs that gives f i at turn i -/
theorem lc_fun (w : Walk J n G Y) {g : TG} {tt : TT} {te : TE} {vs : List Nat} {σ : St} {H1 : Hp} {D : Addr} {Qd : Hp → Prop} (f : Nat → V) (hD : H1 D = none) (hn : n ≤ 16000000)
    (hG : ∀ H, Same H1 H → G H)
    (hs : ∀ i x H H' (Nx : V → Hp → Prop) (Nz : Hp → Prop), i < n → Same H1 H → Y i H x H' → (∀ H4, Same H H4 → Nx (f i) H4) →
      g x (wipe σ vs) H' fun σ2 H2 => wipe σ2 vs = wipe σ vs ∧ tt σ2 H2 fun b H3 => if b = true then te σ2 H3 Nx else Nz H3)
    (hd : ∀ H, Same H1 H → H D = some (.lst ((List.range n).map f)) → Qd H) :
    ∃ W : Nat → Nat → Hp → Prop, (∃ m, W 0 m (upd H1 D (.lst []))) ∧ ∀ i m H, W i m H →
      (J.stop i H ∧ Qd H) ∨ (J.go i H ∧ ∃ Nx : Hp → Prop, (∀ H', Nx H' → ∃ m', m' < m ∧ W (i + 1) m' H') ∧ ∀ x H', J.yld i H x H' → g x (wipe σ vs) H' fun σ2 H2 => wipe σ2 vs = wipe σ vs ∧ tt σ2 H2 fun b H3 =>
        if b = true then te σ2 H3 fun y H4 => ∃ acc, H4 D = some (.lst acc) ∧ acc.length < sizeLine ∧ Nx (upd H4 D (.lst (acc ++ [y]))) else Nx H3) :=
  lc_map w (fun i y _ => y = f i) (fun _ _ _ _ _ h => h) hD hn hG (fun i x H H' Nx Nz hi s1 y h1 => hs i x H H' Nx Nz hi s1 y fun H4 s4 => h1 _ _ s4 rfl)
    (fun H ys hl r s1 hd1 => hd H s1 (by rw [hd1, list_of hl r]))
end
end L2

/-! == of tuples of texts, of tuples whose items are flat or tuples of texts: both answers. -/
namespace L2
open PySem PySem.Spec PyProof.Rows
theorem strs_inj {xs ys : List Str} (h : xs.map V.str = ys.map V.str) : xs = ys := by
  induction xs generalizing ys with
  | nil => cases ys with
    | nil => rfl
    | cons y ys => cases h
  | cons x xs ih => cases ys with
    | nil => cases h
    | cons y ys =>
      rw [List.map_cons, List.map_cons] at h
      injection h with h1 h2
      injection h1 with h1
      rw [h1, ih h2]
/-- two tuples of texts -/
def DTs : EqvB := fun x y H b => ∃ a c, ∃ xs ys : List Str, x = .ref a ∧ y = .ref c ∧ H a = some (.tup (xs.map V.str)) ∧ H c = some (.tup (ys.map V.str)) ∧ b = decide (xs = ys)
theorem monB_ts : MonB DTs := fun x y H H' b e ⟨a, c, xs, ys, h1, h2, h3, h4, h5⟩ => ⟨a, c, xs, ys, h1, h2, e _ _ h3, e _ _ h4, h5⟩
theorem all_strs (xs ys : List Str) : ((List.range (min (xs.map V.str).length (ys.map V.str).length)).all (fun i => eqV ((xs.map V.str).getD i .non) ((ys.map V.str).getD i .non)) && (xs.map V.str).length == (ys.map V.str).length) = decide (xs = ys) := by
  by_cases hl : (xs.map V.str).length = (ys.map V.str).length
  · rw [← eqVs_strs, eqVs_all _ _ hl, ← hl, Nat.min_self, beq_self_eq_true, Bool.and_true]
  · rw [beq_false_of_ne hl, Bool.and_false, decide_eq_false]
    intro e; rw [e] at hl; exact hl rfl
section
variable {X : Cx} {n m : Nat} {ne : Bool} {D D' : EqvB}
theorem rcB_ts : RcB X 1 ne DTs := RcB.imp (rcB_tup (X := X) (ne := ne) monB_flat eqB_flat) fun x y H b ⟨a, c, xs, ys, h1, h2, h3, h4, h5⟩ =>
  ⟨a, c, xs.map V.str, ys.map V.str, fun i => eqV ((xs.map V.str).getD i .non) ((ys.map V.str).getD i .non), h1, h2, SqT.of h3, SqT.of h4, fun i x y hx hy => by
    show DFl x y H (eqV ((xs.map V.str).getD i .non) ((ys.map V.str).getD i .non))
    rw [List.getD_eq_getElem?_getD, List.getD_eq_getElem?_getD, hx, hy]
    rw [List.getElem?_map] at hx hy
    obtain ⟨u, _, rfl⟩ := Option.map_eq_some_iff.mp hx
    obtain ⟨v, _, rfl⟩ := Option.map_eq_some_iff.mp hy
    exact ⟨rfl, rfl, rfl⟩, by rw [h5, all_strs]⟩
theorem eqB_ts : EqB X 1 DTs := RcB.eqB rcB_ts fun x y H b ⟨a, c, xs, ys, h1, h2, h3, h4, h5⟩ => ⟨a, c, h1, h2, fun e => by
  subst e
  rw [h3] at h4
  injection h4 with h4
  injection h4 with h4
  rw [h5, strs_inj h4, decide_eq_true rfl]⟩
/-- flat, or tuples of texts -/
def DFt : EqvB := fun x y H b => DFl x y H b ∨ DTs x y H b
theorem monB_ft : MonB DFt := monB_flat.or monB_ts
theorem eqB_ft : EqB X 1 DFt := (eqB_flat.mono (by decide)).or eqB_ts
theorem rcB_ft {K : PySem.W.Frag} (hK : X.K = K := by rfl) : RcB X 2 ne (DTp K DFt) := hK ▸ rcB_tup monB_ft eqB_ft
/-- tuples of a number and two tuples of texts -/
theorem dT3 {K : PySem.W.Frag} {H : Hp} {a c b1 b2 c1 c2 : Addr} {i j : Int} {xs1 xs2 ys1 ys2 : List Str} (ha : SqT K H a [.int i, .ref b1, .ref c1]) (hc : SqT K H c [.int j, .ref b2, .ref c2])
    (h1 : H b1 = some (.tup (xs1.map V.str))) (h2 : H b2 = some (.tup (xs2.map V.str))) (h3 : H c1 = some (.tup (ys1.map V.str))) (h4 : H c2 = some (.tup (ys2.map V.str))) :
    DTp K DFt (.ref a) (.ref c) H (decide (i = j ∧ xs1 = xs2 ∧ ys1 = ys2)) := by
  refine ⟨a, c, _, _, fun k => [decide (i = j), decide (xs1 = xs2), decide (ys1 = ys2)].getD k false, rfl, rfl, ha, hc, ?_, ?_⟩
  · intro k x y hx hy
    match k, hx, hy with
    | 0, hx, hy =>
      cases (Option.some.inj hx : V.int i = x); cases (Option.some.inj hy : V.int j = y)
      exact .inl ⟨rfl, rfl, by show decide (i = j) = (i == j); by_cases h : i = j <;> simp [h]⟩
    | 1, hx, hy =>
      cases (Option.some.inj hx : V.ref b1 = x); cases (Option.some.inj hy : V.ref b2 = y)
      exact .inr ⟨_, _, _, _, rfl, rfl, h1, h2, rfl⟩
    | 2, hx, hy =>
      cases (Option.some.inj hx : V.ref c1 = x); cases (Option.some.inj hy : V.ref c2 = y)
      exact .inr ⟨_, _, _, _, rfl, rfl, h3, h4, rfl⟩
    | k + 3, hx, hy => cases hx
  · show decide (i = j ∧ xs1 = xs2 ∧ ys1 = ys2) = ((decide (i = j) && (decide (xs1 = xs2) && (decide (ys1 = ys2) && true))) && (3 == 3))
    by_cases e1 : i = j <;> by_cases e2 : xs1 = xs2 <;> by_cases e3 : ys1 = ys2 <;> simp [e1, e2, e3]
end
end L2

/-! Tuples that stand in the heap: +, slices, told by what they hold; lists compared with an empty one. -/
namespace L2
open PySem PySem.Spec PyProof.Rows
def rAddT : R2 := fun x y H Q => ∃ a b xs ys, x = .ref a ∧ y = .ref b ∧ H a = some (.tup xs) ∧ H b = some (.tup ys) ∧ xs.length + ys.length ≤ sizeLine ∧ ∀ p H', Same H H' → H' p = some (.tup (xs ++ ys)) → Q (.ref p) H'
def rSlH : V → Option Int → Option Int → Hp → VK → Prop := fun x lo hi H Q => ∃ a xs, x = .ref a ∧ H a = some (.tup xs) ∧ ∀ p H', Same H H' → H' p = some (.tup (cutV xs lo hi)) → Q (.ref p) H'
/-- two lists, one of them empty -/
def rEqE (K : PySem.W.Frag) : R2 := fun x y H Q => ∃ a b xs ys, x = .ref a ∧ y = .ref b ∧ SqL K H a xs ∧ SqL K H b ys ∧ (xs = [] ∨ ys = []) ∧ Q (.bl (xs.length == ys.length)) H
def rNeE (K : PySem.W.Frag) : R2 := fun x y H Q => ∃ a b xs ys, x = .ref a ∧ y = .ref b ∧ SqL K H a xs ∧ SqL K H b ys ∧ (xs = [] ∨ ys = []) ∧ Q (.bl (!(xs.length == ys.length))) H
section
variable {X : Cx}
theorem op_addT : OpR X (binaryOp .Add) rAddT := op_catA.weak fun x y H Q ⟨a, b, xs, ys, hx, hy, ha, hb, hl, q⟩ =>
  ⟨a, b, xs, ys, hx, hy, SqT.of ha, SqT.of hb, hl, fun e => q b H (Same.refl _) (by rw [hb, e]; rfl), fun _ e => q a H (Same.refl _) (by rw [ha, e, List.append_nil]), fun _ _ p hp => q p _ (Same.new hp) upd_same⟩
theorem cutV_whole {xs : List V} {lo hi : Option Int} (h : HT.sIx xs.length 0 lo = 0 ∧ HT.sIx xs.length xs.length hi = xs.length) : cutV xs lo hi = xs := by
  unfold cutV
  rw [h.1, h.2, List.drop_zero, Nat.sub_zero, List.take_length]
theorem sc_T : SlR X rSlH := fun pins s σ H x v vl vu lo hi sl Q I rx h1 h2 h3 h => sl_tupA pins s σ H x v vl vu lo hi sl Q I rx h1 h2 h3 (by
  obtain ⟨a, xs, hx, ha, q⟩ := h
  exact ⟨a, xs, hx, SqT.of ha, fun w => q a H (Same.refl _) (by rw [ha, cutV_whole w]), fun _ p hp => q p _ (Same.new hp) upd_same⟩)
theorem op_eqE (hu : X.A.units < cLine) : OpR X (compareOp .Eq) (rEqE X.K) := by
  intro pins s σ H x y v u Q I rx ry h
  obtain ⟨a, b, xs, ys, rfl, rfl, h1, h2, he, q⟩ := h
  by_cases hl : xs.length = ys.length
  · have e1 : xs = [] := by
      rcases he with e | e
      · exact e
      · rw [e] at hl; exact List.length_eq_zero_iff.mp hl
    have e2 : ys = [] := by rw [e1] at hl; exact List.length_eq_zero_iff.mp hl.symm
    subst e1 e2
    exact op_eqF hu pins s σ H _ _ v u Q I rx ry ⟨a, b, [], [], rfl, rfl, .inl ⟨h1, h2⟩, rfl, rfl, q⟩
  · cases rx
    cases ry
    show wpAny (model X.prog X.w) X.A (richCompare .Eq _ _) _ _ _
    obtain ⟨its, r1, p1, z1⟩ := I.list h1
    obtain ⟨its2, r2, p2, z2⟩ := I.list h2
    refine SeqAt.RcAt.lists_lengths p1.isList p2.isList ?_ hu _ _ _ _ ⟨.bl (xs.length == ys.length), H, I, ?_, q⟩
    · simp only [List.size_toArray, ← r1.length, ← r2.length]; simpa using hl
    · rw [beq_false_of_ne hl]; rfl
theorem op_neE (hu : X.A.units < cLine) : OpR X (compareOp .NotEq) (rNeE X.K) := by
  intro pins s σ H x y v u Q I rx ry h
  obtain ⟨a, b, xs, ys, rfl, rfl, h1, h2, he, q⟩ := h
  by_cases hl : xs.length = ys.length
  · have e1 : xs = [] := by
      rcases he with e | e
      · exact e
      · rw [e] at hl; exact List.length_eq_zero_iff.mp hl
    have e2 : ys = [] := by rw [e1] at hl; exact List.length_eq_zero_iff.mp hl.symm
    subst e1 e2
    exact op_neF hu pins s σ H _ _ v u Q I rx ry ⟨a, b, [], [], rfl, rfl, .inl ⟨h1, h2⟩, rfl, rfl, q⟩
  · cases rx
    cases ry
    show wpAny (model X.prog X.w) X.A (richCompare .NotEq _ _) _ _ _
    obtain ⟨its, r1, p1, z1⟩ := I.list h1
    obtain ⟨its2, r2, p2, z2⟩ := I.list h2
    refine SeqAt.RcNeAt.lists_lengths p1.isList p2.isList ?_ hu _ _ _ _ ⟨.bl (!(xs.length == ys.length)), H, I, ?_, q⟩
    · simp only [List.size_toArray, ← r1.length, ← r2.length]; simpa using hl
    · rw [beq_false_of_ne hl]; rfl
theorem oc_eqE {K : PySem.W.Frag} (hu : X.A.units + 64 < cLine) (hK : X.K = K := by rfl) : OpR X (compareOp .Eq) (rEqE K) := hK ▸ op_eqE (by omega)
theorem oc_neE {K : PySem.W.Frag} (hu : X.A.units + 64 < cLine) (hK : X.K = K := by rfl) : OpR X (compareOp .NotEq) (rNeE K) := hK ▸ op_neE (by omega)
end
section
variable {J : It} {n : Nat} {G : Hp → Prop} {Y : Nat → Hp → V → Hp → Prop}
/-- a comprehension without ifs whose turns make objects: R tells what a turn gave; it stays true where the new list alone is written -/
theorem lc_obj (w : Walk J n G Y) {g : TG} {tt : TT} {te : TE} {vs : List Nat} {σ : St} {H1 : Hp} {D : Addr} {Qd : Hp → Prop} (R : Nat → V → Hp → Prop) (hR : ∀ i y H H' acc, H D = some (.lst acc) → SameB D H H' → R i y H → R i y H') (hD : H1 D = none) (hn : n ≤ 16000000)
    (hG : ∀ H, Same H1 H → G H)
    (hs : ∀ i x H H' (Nx : V → Hp → Prop) (Nz : Hp → Prop), i < n → Same H1 H → Y i H x H' → (∀ y H4, Same H H4 → R i y H4 → Nx y H4) →
      g x (wipe σ vs) H' fun σ2 H2 => wipe σ2 vs = wipe σ vs ∧ tt σ2 H2 fun b H3 => if b = true then te σ2 H3 Nx else Nz H3)
    (hd : ∀ H (ys : List V), ys.length = n → (∀ i y, ys[i]? = some y → R i y H) → Same H1 H → H D = some (.lst ys) → Qd H) :
    ∃ W : Nat → Nat → Hp → Prop, (∃ m, W 0 m (upd H1 D (.lst []))) ∧ ∀ i m H, W i m H →
      (J.stop i H ∧ Qd H) ∨ (J.go i H ∧ ∃ Nx : Hp → Prop, (∀ H', Nx H' → ∃ m', m' < m ∧ W (i + 1) m' H') ∧ ∀ x H', J.yld i H x H' → g x (wipe σ vs) H' fun σ2 H2 => wipe σ2 vs = wipe σ vs ∧ tt σ2 H2 fun b H3 =>
        if b = true then te σ2 H3 fun y H4 => ∃ acc, H4 D = some (.lst acc) ∧ acc.length < sizeLine ∧ Nx (upd H4 D (.lst (acc ++ [y]))) else Nx H3) := by
  refine lc_it w (fun i H => Same H1 H ∧ ∃ ys : List V, ys.length = i ∧ H D = some (.lst ys) ∧ ∀ j y, ys[j]? = some y → R j y H) ⟨Same.new hD, [], rfl, upd_same, fun j o e => by simp at e⟩ (fun i H _ p => hG H p.1) ?_ ?_
  · rintro i x H H' hi ⟨s1, ys, hl, hD1, r⟩ y
    refine hs i x H H' _ _ hi s1 y fun y H4 s4 ry => ⟨ys, s4 _ _ hD1, by rw [sizeLine_eq]; omega, (s1.trans s4).wr hD, ys ++ [y], by simp [hl], upd_same, fun j o e => ?_⟩
    by_cases hj : j < ys.length
    · rw [List.getElem?_append_left hj] at e
      exact hR j o _ _ _ (s4 _ _ hD1) SameB.at (hR j o _ _ _ hD1 (SameB.of s4) (r j o e))
    · have hj2 : j = i := by
        have := (List.getElem?_eq_some_iff.mp e).1
        rw [List.length_append, List.length_cons, List.length_nil] at this; omega
      rw [List.getElem?_append_right (by omega), hj2, hl, Nat.sub_self] at e
      cases (Option.some.inj e : y = o)
      rw [hj2]
      exact hR i _ _ _ _ (s4 _ _ hD1) SameB.at ry
  · rintro H ⟨s1, ys, hl, hD1, r⟩
    exact hd H ys hl r s1 hD1
end
/-- the addresses of what was made, one for each x of xs -/
theorem objs_of {α : Type} {F : Addr → α → Prop} : ∀ {ys : List V} {xs : List α}, ys.length = xs.length → (∀ (i : Nat) (y : V), ys[i]? = some y → ∃ a x, y = .ref a ∧ xs[i]? = some x ∧ F a x) → ∃ as : List Addr, ys = as.map V.ref ∧ Paired F as xs
  | [], [], _, _ => ⟨[], rfl, .nil⟩
  | [], x :: xs, h, _ => by simp at h
  | y :: ys, [], h, _ => by simp at h
  | y :: ys, x :: xs, h, r => by
    obtain ⟨as, e1, e2⟩ := objs_of (F := F) (ys := ys) (xs := xs) (by simpa using h) fun i y hy => by
      obtain ⟨a, x, h1, h2, h3⟩ := r (i + 1) y (by simpa using hy)
      exact ⟨a, x, h1, by simpa using h2, h3⟩
    obtain ⟨a, x', h1, h2, h3⟩ := r 0 y rfl
    cases (Option.some.inj h2 : x = x')
    exact ⟨a :: as, by rw [List.map_cons, ← e1, h1], .cons h3 e2⟩
/-- a new instance, filled -/
theorem mk_same {H H' : Hp} {x dx : Addr} {o1 o2 : HO} (hx : H x = none) (hd : H dx = none) (e : SameB x (upd (upd H dx o1) x o2) H') : Same H H' := fun b o h =>
  e b o (ne_of_none h hx) (by rw [upd_ne (ne_of_none h hx), upd_ne (ne_of_none h hd)]; exact h)
theorem mkn_same {H : Hp} {x dx : Addr} {o1 o2 : HO} (hx : H x = none) (hd : H dx = none) : Same H (upd (upd H dx o1) x o2) := fun b o h => by rw [upd_ne (ne_of_none h hx), upd_ne (ne_of_none h hd)]; exact h
end L2

/-! Own classes made with starred arguments, by their name or by a local name; classmethods; what is raised is wished for at the slots. len(o) by an own __len__. x in a tuple of own objects. -/
namespace L2
open PySem PySem.Spec PyProof.Rows
theorem Passes.atS {CX : CXT} {X : Cx} {E : XK} (h : Passes CX X E) : ∀ σ, PassesAt CX X σ E := fun σ pins H s e s' I c => h pins σ H s e s' I c
theorem passLS {X : Cx} : ∀ σ, PassesAt (L2.CX X.prog X.w) X σ E0 := passL.atS
def tMkR (C : Addr) (sp : Sp) (E : St → XK) (t : TA) : TE := fun σ H Q => t σ H fun vs H1 => ∀ x dx, H1 x = none → H1 dx = none → dx ≠ x →
  sp (.ref x :: vs) (upd (upd H1 dx (.own x)) x (.ins C dx [])) (fun v H2 => v = .non ∧ Q (.ref x) H2) (E σ)
def tMkL (i : Nat) (C : Addr) (sp : Sp) (E : St → XK) (t : TA) : TE := fun σ H Q => σ[i]? = some (some (.ref C)) ∧ tMkR C sp E t σ H Q
def tCMS (C : Addr) (sp : Sp) (E : St → XK) (ta : TE) (t : TA) : TE := fun σ H Q => ta σ H fun x H1 => x = .ref C ∧ t σ H1 fun vs H2 => sp (.ref C :: vs) H2 Q (E σ)
section
variable {X : Cx} {pins : List (Addr × Obj)} {σ : St} {H : Hp} {s : Shared}
theorem run_fnRS {CX : CXT} {k : Nat} {f : Addr} {sp : Sp} {E : XK} {Q : VK} {us : List Value} {vs : List V} (F : FnR X.prog X.w X.K X.mg X.base CX k f sp) (hr : Room k X.A) (hx : PassesAt CX X σ E) (I : Inv X pins σ H s) (r : Vals vs us) (h : sp vs H Q E) :
    codeAny (model X.prog X.w) X.A (.call (.ref f) ⟨us, []⟩) (fun r s' => match r with | .ok (.ret v) => EP X pins σ Q v s' | .ok _ => False | .error e => X.xe e s') s := by
  refine codeAny_mono (F X.A X.stack s H us vs Q E hr I.env0 r h) fun r s' hq => ?_
  cases r with
  | error e => exact hx pins H s e s' I hq
  | ok fl =>
    cases fl with
    | ret u => exact I.after hq
    | next => exact False.elim hq
    | brk => exact False.elim hq
    | cont => exact False.elim hq
theorem run_mkRS {CX : CXT} {k : Nat} {f C : Addr} {sp : Sp} {E : XK} {Q : VK} {us : List Value} {vs : List V} (M : Mk X.K C f) (F : FnR X.prog X.w X.K X.mg X.base CX k f sp) (hr : Room (k + 1) X.A) (hx : PassesAt CX X σ E) (I : Inv X pins σ H s) (r : Vals vs us)
    (h : ∀ x dx, H x = none → H dx = none → dx ≠ x → sp (V.ref x :: vs) (upd (upd H dx (.own x)) x (.ins C dx [])) (fun v H2 => v = .non ∧ Q (.ref x) H2) E) :
    wpAny (model X.prog X.w) X.A (call (.ref C) us) (EP X pins σ Q) X.xe s := by
  have hq := h (s.heap.objs.size + 1) s.heap.objs.size (I.hok.fresh (Nat.le_succ _)) (I.hok.fresh (Nat.le_refl _)) (Nat.ne_of_lt (Nat.lt_succ_self _))
  have I2 := Inv.made (C := C) I
  have r2 : Vals (V.ref (s.heap.objs.size + 1) :: vs) (Value.ref (s.heap.objs.size + 1) :: us) := .cons rfl r
  refine wpAny_call (make_map (f := f) I.kIn M.makes M.init (beq_iff_eq.mp M.fn) (codeAny_mono (F _ X.stack _ _ (Value.ref (s.heap.objs.size + 1) :: us) _ _ E (hr.make C us []) (I2.env0.make C us []) r2 hq) fun r s' hq' => ?_))
  cases r with
  | error e => exact hx pins _ _ e s' I2 hq'
  | ok fl =>
    cases fl with
    | ret u =>
      obtain ⟨v, H', I3, rv, ev, q3⟩ := I2.after hq'
      subst ev
      exact ⟨rv, ⟨V.ref (s.heap.objs.size + 1), H', I3, rfl, q3⟩⟩
    | next => exact False.elim hq'
    | brk => exact False.elim hq'
    | cont => exact False.elim hq'
end
section
variable {X : Cx} {CX : CXT} {k i : Nat} {f C : Addr} {sp : Sp} {E : St → XK} {x : Str} {e o : Expr} {es : List Expr} {t : TA} {ta : TE} {p pos apos : Pos}
/-- C(e, ..) -/
theorem pe_mkR (M : Mk X.K C f) (F : FnR X.prog X.w X.K X.mg X.base CX k f sp) (hr : Room (k + 1) X.A) (hg : Gl X x) (hm : X.mg x = some (.ref C)) (hx : ∀ σ, PassesAt CX X σ (E σ)) (ha : PA X (e :: es) t) (hdb : (x == ("__debug__" : Str)) = false := by decide)
    (he : starEach (e :: es) X.env = (false, eval e X.env) :: starEach es X.env := by rfl) (hpl : (backTo pos (starEach es X.env)).any (·.1) = false := by rfl) : PE X (.Call (.Name x p) (e :: es) [] pos) (tMkR C sp E t) := by
  refine ⟨fun pins s σ H Q I h => wpAny_Call_Name_kw (ld_glob I hg hm ?_ hdb)⟩
  exact PySem.W.callWith_K (h₀ := X.base) I.ok.mod.kin M.kp (thn (ha.run pos pins s σ H _ I h) fun us s1 ⟨vs, H1, I1, r, q⟩ => ⟨I1.kIn, run_mkRS M F hr (hx σ) I1 r q⟩) he hpl
/-- C(e, .., *y) -/
theorem pe_mkRs (M : Mk X.K C f) (F : FnR X.prog X.w X.K X.mg X.base CX k f sp) (hr : Room (k + 1) X.A) (hg : Gl X x) (hm : X.mg x = some (.ref C)) (hx : ∀ σ, PassesAt CX X σ (E σ)) (ha : PA X (e :: es) t) (hdb : (x == ("__debug__" : Str)) = false := by decide)
    (he : starEach (e :: es) X.env = (false, eval e X.env) :: starEach es X.env := by rfl) (hst : (backTo pos (starEach es X.env)).any (·.1) = true := by rfl) : PE X (.Call (.Name x p) (e :: es) [] pos) (tMkR C sp E t) := by
  refine ⟨fun pins s σ H Q I h => wpAny_Call_Name_kw (ld_glob I hg hm ?_ hdb)⟩
  exact PySem.W.callWith_S2 (h₀ := X.base) I.ok.mod.kin M.kp (thn (ha.run pos pins s σ H _ I h) fun us s1 ⟨vs, H1, I1, r, q⟩ => ⟨I1.kIn, run_mkRS M F hr (hx σ) I1 r q⟩) he hst
/-- cls(e, .., *y), cls a local name that holds C -/
theorem pe_mkLs (M : Mk X.K C f) (F : FnR X.prog X.w X.K X.mg X.base CX k f sp) (hr : Room (k + 1) X.A) (i : Nat) (hN : X.N[i]? = some x) (hv : Vis X.env.scope x) (hx : ∀ σ, PassesAt CX X σ (E σ)) (ha : PA X (e :: es) t) (hdb : (x == ("__debug__" : Str)) = false := by decide)
    (hcd : (x == ("__classdict__" : Str)) = false := by decide)
    (he : starEach (e :: es) X.env = (false, eval e X.env) :: starEach es X.env := by rfl) (hst : (backTo pos (starEach es X.env)).any (·.1) = true := by rfl) : PE X (.Call (.Name x p) (e :: es) [] pos) (tMkL i C sp E t) := by
  refine ⟨fun pins s σ H Q I h => ?_⟩
  obtain ⟨hs, ht⟩ := h
  refine wpAny_Call_Name_kw (thn ((pe_var (pos := p) hN hv hdb hcd).run pins s σ H (fun v H1 => v = .ref C ∧ H1 = H) I ⟨.ref C, hs, rfl, rfl⟩) fun u s1 ⟨v, H1, I1, r1, q1⟩ => ?_)
  obtain ⟨rfl, rfl⟩ := q1
  cases r1
  exact PySem.W.callWith_S2 (h₀ := X.base) I.ok.mod.kin M.kp (thn (ha.run pos pins s1 σ _ _ I1 ht) fun us s2 ⟨vs, H2, I2, r, q⟩ => ⟨I2.kIn, run_mkRS M F hr (hx σ) I2 r q⟩) he hst
/-- C.m(e, ..), m a classmethod -/
theorem pe_cmS {mc : Value} {p g : Addr} {m : Str} {pl : Sem Bool} (he : PE X o ta) (r : ClX.CRead X.K C mc) (c : ClX.CMet X.K C mc m p g) (F : FnR X.prog X.w X.K X.mg X.base CX k g sp) (hr : Room k X.A) (hx : ∀ σ, PassesAt CX X σ (E σ)) (ha : PA X (e :: es) t)
    (hst : starEach (e :: es) X.env = (false, eval e X.env) :: starEach es X.env := by rfl) (hpl : (backTo pos (starEach es X.env)).any (·.1) = false := by rfl)
    (ht : eval (.Call (.Attribute o m apos) (e :: es) [] pos) X.env = (do
      let ov ← eval o X.env
      standAt apos.atName
      let (f, first) ← holding [ov] (getMethod ov m pl)
      callWith pos f first (backTo pos (starEach (e :: es) X.env)) (backToKw pos (keywordEach [] X.env))) := by rfl) :
    PE X (.Call (.Attribute o m apos) (e :: es) [] pos) (tCMS C sp E ta t) := by
  refine ⟨fun pins s σ H Q I h => ?_⟩
  refine PySem.W.methodCall_KW (pl := pl) (thn (he.run pins s σ H _ I h) fun u s1 ⟨x, H1, I1, rx, ex, q⟩ => ?_) ht
  subst ex
  obtain rfl : u = Value.ref C := rx
  refine ClX.getmethcm_ok I1 r c fun s2 I2 => ?_
  refine ClX.callwith_cm I2 (ClX.base_none I1 (Nat.le_refl _)) c.fi (thn (ha.run pos _ s2 σ H1 _ I2 q) fun us s3 ⟨vs, H2, I3, rv, q2⟩ => ⟨⟨ClX.pin_at I3, I3.kIn⟩, ?_⟩) hst hpl
  have z : wpAny (model X.prog X.w) X.A (call (.ref s1.heap.objs.size) us) (EP X ((s1.heap.objs.size, PySem.W.methodObj (.ref g) (.ref C)) :: pins) σ Q) X.xe s3 :=
    wpAny_call (PySem.W.method_call (ClX.pin_at I3) (run_fnRS (us := .ref C :: us) (vs := .ref C :: vs) F hr (hx σ) I3 (.cons rfl rv) q2))
  exact thn z fun _ _ y => ClX.unpinE y
end
/-! ### len(o) -/
def rLenO (C : Addr) (sp : Sp) : List V → Hp → VK → Prop := fun xs H Q => match xs with
  | [.ref a] => ∃ dx fs, H a = some (.ins C dx fs) ∧ sp [.ref a] H (fun v H' => ∃ n : Int, v = .int n ∧ 0 ≤ n ∧ n < 2 ^ 62 ∧ Q (.int n) H') E0
  | _ => False
section
variable {X : Cx} {k : Nat} {f C : Addr} {fd : FuncData} {ps : List Str} {sp : Sp}
theorem cc_lenO {CX : CXT} (hl : PySem.W.findIn X.K (.ref C) "__len__" = some (some (.ref f))) (hf : PySem.W.isFn X.K (.ref f) = true) (F : FnOk X.prog X.w X.K X.mg X.base CX k f fd ps sp) (hr : Room (k + 1) X.A) (hb : Binds X.K fd ps []) (hx : Passes CX X E0) : CallR X (.builtin "len") (rLenO C sp) := by
  intro pins s σ H xs us Q I r h
  unfold rLenO at h
  split at h
  · rename_i a
    obtain ⟨dx, fs, ha, h⟩ := h
    obtain ⟨u, rfl, ru⟩ := vals1 r
    cases (show u = Value.ref a from ru)
    obtain ⟨mA, O, _⟩ := ins_get I.hok ha
    obtain ⟨od, J, _⟩ := O.look
    have sb : Sub X k X.A.in1 := Sub.in1 (⟨hr, rfl⟩ : Sub X (k + 1) X.A)
    have e0 : Env0 X.prog X.w X.K X.mg X.base X.A.in1 X.stack s H := by
      have e := I.env0
      exact ⟨by rw [sb.fr]; exact e.frames, e.mod, e.bs, e.bsz, e.funs, e.frf, e.hok, e.bare⟩
    have hlen := F.len _ _ _ _ h
    refine Calls.call_function_entry PySem.kind_len PySem.plain_len PySem.entry_len (PySem.args_len1 _) ?_
    unfold Builtin.«len»
    refine wpAny_bind (m := oneArg "len" _) (wpAny_pure ?_)
    refine wpAny_bind (m := callSpecial? (.ref a) (Str.ofString "__len__")) (PySem.W.special_fn I.kIn J hl (beq_iff_eq.mp hf) ?_)
    refine wpAny_call (codeAny_mono (F.run X.A.in1 X.stack s H ⟨[.ref a], []⟩ [.ref a] [.ref a] _ E0 sb.room e0 (by
      have := hb s [.ref a] I.kIn (by simpa using hlen)
      simpa using this) (.cons rfl .nil) h) fun r s' hq => ?_)
    cases r with
    | error e => exact hx pins σ H s e s' I hq
    | ok fl =>
      cases fl with
      | ret w =>
        obtain ⟨z, H', I', rz, n, ez, h0, h1, q⟩ := I.after hq
        subst ez
        obtain ⟨t, rfl⟩ := rz
        refine wpAny_bind (wpAny_holding (wpAny_pure ?_))
        refine wpAny_bind (wpAny_letGo ?_)
        show wpAny _ _ (if n < 0 then _ else _) _ _ _
        rw [if_neg (by omega)]
        show wpAny _ _ (if n ≥ 2 ^ 63 then _ else _) _ _ _
        rw [if_neg (by omega)]
        exact wpAny_bind (wpAny_mkInt (wpAny_pure ⟨_, rfl, .int n, H', I'.tok _, ⟨_, rfl⟩, q⟩))
      | next => exact False.elim hq
      | brk => exact False.elim hq
      | cont => exact False.elim hq
  · exact h.elim
end
end L2

/-! x in t, x not in t: the items compared by an own __eq__. t[::-1] of a tuple. -/
namespace GB
open PySem PyProof.Rows
section
variable {prog : Program} {w : World} {A : Around} {E : Value → Shared → Prop} {s : Shared}
theorem tuple_inB {t : Addr} {items : Array Value} {x : Value} {P : Fin → Shared → Prop} (I : Shared → Prop) (e : Nat → Bool) (ht : IsTup s.heap t items)
    (turn : ∀ i (h : i < items.size) s', I s' → wpAny (model prog w) A (eqBool items[i] x) (fun r s2 => r = e i ∧ I s2) E s') (h0 : I s)
    (fin : ∀ s', I s' → P (.done (.ret (.bool ((List.range items.size).any e)))) s') : wpAny (model prog w) A (Builtin.«tuple.__contains__» ⟨[.ref t, x], []⟩) P E s := by
  show wpAny _ _ (Builtin.Tuple.tupleItemsOf (.ref t) >>= _) _ _ s
  refine wpAny_bind (tupleItemsOf_ ht ?_)
  refine wpAny_bind (forIn_array_ _ (fun rest b s' => b.1 = none ∧ I s' ∧ ∃ i, rest = items.toList.drop i ∧ ∀ s', I s' → P (.done (.ret (.bool (((List.range items.size).drop i).any e)))) s') _ ?_ ?_ items _ ⟨rfl, h0, 0, rfl, fin⟩)
  · rintro y rest b s' ⟨hb, hI, i, hi, hP⟩
    have hlt : i < items.toList.length := by
      rcases Nat.lt_or_ge i items.toList.length with h' | h'
      · exact h'
      · rw [List.drop_of_length_le h'] at hi; cases hi
    have hs : i < items.size := by simpa using hlt
    rw [List.drop_eq_getElem_cons hlt] at hi
    injection hi with hy hrest
    have hy : y = items[i] := by simpa using hy
    subst hy
    rw [drop_range hs, List.any_cons] at hP
    refine wpAny_bind (wpAny_mono (turn i hs s' hI) (fun r s2 q2 => ?_) fun _ _ x => x)
    obtain ⟨hr, q2⟩ := q2
    subst hr
    cases he : e i with
    | true =>
      rw [he] at hP
      have := hP _ q2
      exact wpAny_bind (wpAny_pure (wpAny_pure (wpAny_pure (by simpa using this))))
    | false =>
      rw [he] at hP
      exact wpAny_pure ⟨rfl, q2, i + 1, hrest, by simpa using hP⟩
  · rintro ⟨b1, b2⟩ s' ⟨hb, hI, i, hi, hP⟩
    have hge : items.size ≤ i := by
      rcases Nat.lt_or_ge i items.toList.length with h' | h'
      · rw [List.drop_eq_getElem_cons h'] at hi; cases hi
      · simpa using h'
    rw [List.drop_of_length_le (by simpa using hge)] at hP
    have := hP _ hI
    simp only at hb
    subst hb
    exact wpAny_pure (by simpa using this)
theorem contains_inB {t : Addr} {items : Array Value} {x : Value} {Q : Bool → Shared → Prop} (I : Shared → Prop) (e : Nat → Bool) (ht : IsTup s.heap t items)
    (turn : ∀ i (h : i < items.size) s', I s' → wpAny (model prog w) A.in1 (eqBool items[i] x) (fun r s2 => r = e i ∧ I s2) E s') (h0 : I s)
    (fin : ∀ s', I s' → Q ((List.range items.size).any e) s') : wpAny (model prog w) A (contains (.ref t) x) Q E s := by
  unfold contains
  refine wpAny_holding ?_
  refine wpAny_bind (wpAny_specialOf ht.typeIs slot_tuple_contains.lookup ?_)
  rw [if_neg (by decide)]
  exact wpAny_bind (wpAny_callSpecialUnlessNone?_slot (name := Str.ofString "__contains__") ht.typeIs slot_tuple_contains
    (wpAny_call_entry slot_tuple_contains ht.typeIs entry_tuple_contains (tuple_inB I e ht turn h0 fun s' q => ⟨_, rfl, wpAny_truthy_bool (fin s' q)⟩) (args_tuple_contains _ _)))
end
end GB
namespace L2
open PySem PySem.Spec PyProof.Rows
def rInB (neg : Bool) (K : PySem.W.Frag) (D : EqvB) : R2 := fun x y H Q => ∃ p ys e, y = .ref p ∧ SqT K H p ys ∧ (∀ (i : Nat) z, ys[i]? = some z → D z x H (e i)) ∧ ∀ H', Ext H H' → Q (.bl (neg != (List.range ys.length).any e)) H'
section
variable {X : Cx} {n : Nat} {D : EqvB}
theorem run_inB (hD : MonB D) (h : EqB X n D) (hr : Room (n + 1) X.A) {pins : List (Addr × Obj)} {s : Shared} {σ : St} {H : Hp} {x : V} {u : Value} {p : Addr} {ys : List V} {e : Nat → Bool} {Q : Bool → Shared → Prop} (I : Inv X pins σ H s) (rx : RelV x u) (hp : SqT X.K H p ys)
    (hd : ∀ (i : Nat) z, ys[i]? = some z → D z x H (e i)) (q : ∀ s' H', Inv X pins σ H' s' → Ext H H' → Q ((List.range ys.length).any e) s') : wpAny (model X.prog X.w) X.A (contains (.ref p) u) Q X.xe s := by
  obtain ⟨its, r, g, z⟩ := I.tuple hp
  have hsz : its.toArray.size = ys.length := by rw [List.size_toArray, ← r.length]
  refine GB.contains_inB (LoopI X pins σ H) e g (fun i h1 s' l => ?_) ⟨H, I, Ext.rfl'⟩ fun s' l => ?_
  · obtain ⟨H1, I1, e1⟩ := l
    have k1 : i < ys.length := by omega
    obtain ⟨v, hv, rv⟩ := r.get (List.getElem?_eq_getElem k1)
    have g1 : its[i]? = some its.toArray[i] := by
      have h1' : i < its.length := by simpa using h1
      rw [List.getElem?_eq_getElem h1'] <;> simp
    rw [g1] at hv
    rw [Option.some.inj hv]
    refine wpAny_mono (h X.A.in1 pins s' σ H1 _ _ v u _ (Sub.in1 (⟨hr, rfl⟩ : Sub X (n + 1) X.A)) I1 rv rx (hD _ _ _ _ _ e1 (hd i _ (List.getElem?_eq_getElem k1)))) (fun r s2 q => ?_) fun _ _ x => x
    obtain ⟨hr, H2, I2, e2⟩ := q
    exact ⟨hr, H2, I2, e1.trans e2⟩
  · obtain ⟨H1, I1, e1⟩ := l
    rw [hsz]
    exact q s' H1 I1 e1
theorem op_inB {K : PySem.W.Frag} (hD : MonB D) (h : EqB X n D) (hr : Room (n + 1) X.A) (hK : X.K = K := by rfl) : OpR X (compareOp .In) (rInB false K D) := by
  subst hK
  intro pins s σ H x y v u Q I rx ry hq
  obtain ⟨p, ys, e, rfl, hp, hd, q⟩ := hq
  cases ry
  show wpAny (model X.prog X.w) X.A (do return Value.bool (← contains (.ref p) v)) (EP X pins σ Q) X.xe s
  refine wpAny_bind (run_inB hD h hr I rx hp hd fun s' H' I' ex => wpAny_pure ⟨.bl _, H', I', rfl, ?_⟩)
  have := q H' ex
  rw [bne_f] at this
  exact this
theorem op_notInB {K : PySem.W.Frag} (hD : MonB D) (h : EqB X n D) (hr : Room (n + 1) X.A) (hK : X.K = K := by rfl) : OpR X (compareOp .NotIn) (rInB true K D) := by
  subst hK
  intro pins s σ H x y v u Q I rx ry hq
  obtain ⟨p, ys, e, rfl, hp, hd, q⟩ := hq
  cases ry
  show wpAny (model X.prog X.w) X.A (do return Value.bool (!(← contains (.ref p) v))) (EP X pins σ Q) X.xe s
  refine wpAny_bind (run_inB hD h hr I rx hp hd fun s' H' I' ex => wpAny_pure ⟨.bl _, H', I', rfl, ?_⟩)
  have := q H' ex
  rw [bne_t] at this
  exact this
end
/-! ### t[::-1] -/
end L2
namespace HT
open PySem PySem.Spec PyProof.Rows
section
variable {prog : Program} {w : World} {A : Around} {E : Value → Shared → Prop} {s : Shared}
theorem adjust_rev (n : Nat) : Builtin.Slice.sliceAdjust none none (-1) (n : Int) = ((n : Int) - 1, -1) := rfl
theorem places_rev (n : Nat) : Builtin.Slice.slicePlaces ((n : Int) - 1) (-1) (-1) = n := by
  unfold Builtin.Slice.slicePlaces
  rw [if_neg (by decide)]
  by_cases h : (n : Int) - 1 > -1
  · rw [if_pos h, show (- (-1 : Int)) = 1 by decide, Int.ediv_one]; omega
  · rw [if_neg h]; omega
theorem pick_rev (xs : Array Value) : ((List.range xs.size).filterMap fun (m : Nat) => xs[(((xs.size : Int) - 1) + (m : Int) * (-1)).toNat]?).toArray = xs.toList.reverse.toArray := by
  congr 1
  have e : (List.range xs.size).filterMap (fun (m : Nat) => xs[(((xs.size : Int) - 1) + (m : Int) * (-1)).toNat]?) = (List.range xs.size).map fun m => xs.toList.reverse.getD m .none := by
    have gen : ∀ (l : List Nat) (f : Nat → Option Value) (g : Nat → Value), (∀ m ∈ l, f m = some (g m)) → l.filterMap f = l.map g := by
      intro l f g
      induction l with
      | nil => intro _; rfl
      | cons a l ih =>
        intro h
        rw [List.filterMap_cons, h a List.mem_cons_self, ih fun m hm => h m (List.mem_cons_of_mem _ hm)]; rfl
    refine gen _ _ _ fun m hm => ?_
    have hm := List.mem_range.mp hm
    have e1 : (((xs.size : Int) - 1) + (m : Int) * (-1)).toNat = xs.size - 1 - m := by omega
    have h1 : xs.size - 1 - m < xs.size := by omega
    rw [e1, Array.getElem?_eq_getElem h1]
    rw [List.getD_eq_getElem?_getD, List.getElem?_reverse (by simpa using hm)]
    simp [h1]
  rw [e]
  apply List.ext_getElem?
  intro i
  rw [List.getElem?_map]
  by_cases hi : i < xs.size
  · rw [List.getElem?_range hi]
    have : i < xs.toList.reverse.length := by simpa using hi
    rw [List.getElem?_eq_getElem this]
    show some (xs.toList.reverse.getD i .none) = _
    rw [List.getD_eq_getElem?_getD, List.getElem?_eq_getElem this]; rfl
  · rw [List.getElem?_eq_none (by simp; omega), List.getElem?_eq_none (by simp; omega)]; rfl
theorem getItem_tuple_rev {t sl : Addr} {items : Array Value} {vl vu vs : Value} {Q : Value → Shared → Prop} (ht : IsTup s.heap t items) (hs : s.heap.IsSliceOf sl vl vu vs) (pl : IsPart vl none) (pu : IsPart vu none) (ps : IsPart vs (some (-1)))
    (h : Q (.ref s.heap.objs.size) { s with heap := s.heap.push { cls := .type "tuple", data := .seq items.toList.reverse.toArray } })
    (hsz : items.size ≤ sizeLine) : wpAny (model prog w) A (getItem (.ref t) (.ref sl)) Q E s := by
  have htake : sizeOk (.seq items.toList.reverse.toArray) := by
    show items.toList.reverse.toArray.size ≤ sizeLine
    rw [List.size_toArray, List.length_reverse, Array.length_toList]
    omega
  obtain ⟨os, hos, hcs, hds⟩ := id hs
  have hTs : s.TypeIs (.ref sl) "slice" := ⟨os, hos, hcs⟩
  unfold getItem
  try with_reducible refine wpAny_holding ?_
  first | refine wpAny_bind (wpAny_pure ?_) | skip
  refine wpAny_bind (wpAny_sequenceKey ht.typeIs (by decide) ?_)
  refine wpAny_bind (wpAny_callSpecial?_slot (name := Str.ofString "__getitem__") ht.typeIs PyProof.Rows.slot_tuple_getitem
    (wpAny_call_entry PyProof.Rows.slot_tuple_getitem ht.typeIs entry_tuple_getitem ?_ (args_tuple_getitem _ _)))
  show wpAny _ _ (Builtin.Tuple.tupleItemsOf (.ref t) >>= _) _ _ s
  refine wpAny_bind (tupleItemsOf_ ht ?_)
  refine wpAny_bind (wpAny_typeOf hTs ?_)
  rw [if_pos (by decide)]
  refine wpAny_bind ?_
  unfold Builtin.Slice.sliceApplied Builtin.Slice.sliceFields
  refine wpAny_bind (wpAny_bind (wpAny_field hos hds (x := vl) rfl (wpAny_bind (wpAny_field hos hds (x := vu) rfl (wpAny_bind (wpAny_field hos hds (x := vs) rfl (wpAny_pure ?_)))))))
  refine wpAny_bind (slicePart_ ps ?_)
  show wpAny _ _ (if ((-1 : Int) == 0) = true then _ else _) _ _ s
  rw [if_neg (by decide)]
  refine wpAny_bind (slicePart_ pl (wpAny_bind (slicePart_ pu (wpAny_bind (wpAny_pure ?_)))))
  show wpAny _ _ (match Builtin.Slice.sliceAdjust none none (-1) (items.size : Int) with | (lo, hi) => pure (lo, (-1 : Int), Builtin.Slice.slicePlaces lo hi (-1))) _ _ s
  rw [adjust_rev]
  show wpAny _ _ (pure ((items.size : Int) - 1, (-1 : Int), Builtin.Slice.slicePlaces ((items.size : Int) - 1) (-1) (-1))) _ _ s
  rw [places_rev]
  refine wpAny_pure ?_
  have hno : ¬ ((((items.size : Int) - 1) == 0 && (-1 : Int) == 1 && items.size == items.size) = true) := by
    rw [show ((-1 : Int) == 1) = false by decide, Bool.and_false, Bool.false_and]; decide
  show wpAny _ _ (if ((((items.size : Int) - 1) == 0 && (-1 : Int) == 1 && items.size == items.size) = true) then _ else _) _ _ s
  rw [if_neg hno, pick_rev]
  first
    | exact wpAny_bind (m := Builtin.Tuple.tupleExact _) (wpAny_newObj_type (wpAny_pure ⟨_, rfl, wpAny_pure h⟩) htake)
    | exact wpAny_bind (m := Builtin.Tuple.tupleExact _) (wpAny_newObj_type (wpAny_bind (wpAny_pure (wpAny_pure ⟨_, rfl, wpAny_pure h⟩))) htake)
    | exact wpAny_bind (wpAny_bind (m := Builtin.Tuple.tupleExact _) (wpAny_newObj_type (wpAny_pure (wpAny_pure ⟨_, rfl, wpAny_pure h⟩)) htake))
    | exact wpAny_bind (wpAny_bind (m := Builtin.Tuple.tupleExact _) (wpAny_newObj_type (wpAny_pure ⟨_, rfl, wpAny_pure h⟩) htake))
end
end HT
namespace L2
open PySem PySem.Spec PyProof.Rows
def tRevT (K : PySem.W.Frag) (te : TE) : TE := fun σ H Q => te σ H fun x H1 => ∃ a xs, x = .ref a ∧ SqT K H1 a xs ∧ ∀ p, H1 p = none → Q (.ref p) (upd H1 p (.tup xs.reverse))
theorem pe_revT {X : Cx} {K : PySem.W.Frag} {e : Expr} {te : TE} {k : Nat} {p1 p2 p3 pos : Pos} (he : PE X e te) (hK : X.K = K := by rfl) : PE X (.Subscript e (.Slice none none (some (.UnaryOp .USub (.Constant (.int 1) k p1) p2)) p3) pos) (tRevT K te) := by
  subst hK
  refine ⟨fun pins s σ H Q I h => ?_⟩
  refine Subscript_ (thn (he.run pins s σ H _ I h) fun v s1 ⟨x, H1, I1, r1, q1⟩ => ?_)
  obtain ⟨a, xs, ex, hx, q⟩ := q1
  subst ex
  cases r1
  have hst : PO X (some (.UnaryOp .USub (.Constant (.int 1) k p1) p2)) (tPart (tUn (rU fun i => .int (-i)) (tC (.int 1)))) := po_some (pe_un un_neg pe_int)
  refine wpAny_Slice (thn (po_none.run pins s1 σ H1 (fun o H2 => o = none ∧ H2 = H1) I1 ⟨rfl, rfl⟩) fun vl s2 ⟨l, H2, I2, pl, el, e2⟩ => ?_)
  subst el e2
  refine thn (po_none.run pins s2 σ H2 (fun o H3 => o = none ∧ H3 = H2) I2 ⟨rfl, rfl⟩) fun vu s3 ⟨u, H3, I3, pu, eu, e3⟩ => ?_
  subst eu e3
  refine thn (hst.run pins s3 σ H3 (fun o H4 => o = some (-1) ∧ H4 = H3) I3 ⟨1, rfl, -1, rfl, rfl, rfl⟩) fun vs s4 ⟨o, H4, I4, ps, eo, e4⟩ => ?_
  subst eo e4
  have I5 : Inv X pins σ H4 { s4 with heap := s4.heap.push { cls := .type "slice", data := .fields #[vl, vu, vs] } } := I4.kept (t' := s4.toks) fun b ob q => Heap.get?_push_of_some _ q
  obtain ⟨its, r, ht, hz⟩ := I5.tuple hx
  have hlen := r.length
  show wpAny (model X.prog X.w) X.A (subscriptTail e (.Slice none none (some (.UnaryOp .USub (.Constant (.int 1) k p1) p2)) p3) (.ref a) (.ref s4.heap.objs.size)) (EP X pins σ Q) X.xe { s4 with heap := s4.heap.push { cls := .type "slice", data := .fields #[vl, vu, vs] } }
  refine tail_any (ops := [.ref a, .ref s4.heap.objs.size]) ht.typeIs (PyProof.Rows.slot_tuple_getitem.lookup) ?_ (by with_unfolding_all rfl)
  refine HT.getItem_tuple_rev ht (Heap.IsSliceOf.new _ vl vu vs) pl pu ps ?_ (by rw [List.size_toArray]; omega)
  refine ⟨.ref _, _, I5.laid (t' := s4.toks) (o := .tup xs.reverse) (fun b ob q => Heap.get?_push_of_some _ q) (Nat.le_refl _) ?_, rfl, q _ (I5.hok.fresh (Nat.le_refl _))⟩
  exact ⟨by rw [List.length_reverse]; exact hz, _, r.reverse, IsTup.new _ _⟩
end L2

/-! Dicts with texts as keys, by readings that compute; defs with a star parameter. -/
namespace L2
open PySem PySem.Spec PyProof.Rows
def rDInC (neg : Bool) : R2 := fun y x H Q => match y, x with
  | .str k, .ref a => ∃ kvs, H a = some (.dK kvs) ∧ Q (.bl (neg != (valV kvs (Sum.inr k)).isSome)) H
  | _, _ => False
section
variable {X : Cx}
theorem oc_din (hu : X.A.units + 64 < cLine) : OpR X (compareOp .In) (rDInC false) := fun pins s σ H x y v u Q I rx ry h => by
  unfold rDInC at h
  split at h
  · obtain ⟨kvs, hd, q⟩ := h
    rename_i k a
    cases (show u = Value.ref a from ry)
    exact d_in (by omega) I (DGet.k (k := Sum.inr k) hd) rx fun s3 I3 => ⟨.bl _, H, I3, rfl, by rw [bne_f] at q; exact q⟩
  · exact h.elim
theorem oc_dnotin (hu : X.A.units + 64 < cLine) : OpR X (compareOp .NotIn) (rDInC true) := fun pins s σ H x y v u Q I rx ry h => by
  unfold rDInC at h
  split at h
  · obtain ⟨kvs, hd, q⟩ := h
    rename_i k a
    cases (show u = Value.ref a from ry)
    exact d_notIn (by omega) I (DGet.k (k := Sum.inr k) hd) rx fun s3 I3 => ⟨.bl _, H, I3, rfl, by rw [bne_t] at q; exact q⟩
  · exact h.elim
theorem hu1 {n : Nat} (h : n + 64 < cLine) : n + 1 < cLine := by omega
end
/-! ### defs with a star parameter -/
def spStar (n : Nat) (sp : Sp) : Sp := fun vs H Q E => ∃ ws rest, vs = ws ++ rest ∧ ws.length = n ∧ rest.length ≤ sizeLine ∧ ∀ p, H p = none → sp (ws ++ [.ref p]) (upd H p (.tup rest)) Q E
def BStar (K : PySem.W.Frag) (fd : FuncData) (ps : List Str) (pv : Str) : Prop := ∀ us rest : List Value, us.length = ps.length → bindArgs fd ⟨us ++ rest, []⟩ = (newTuple rest >>= fun t => pure (ps.zip us ++ [(pv, t)]))
section
variable {P : Program} {w : World} {K : PySem.W.Frag} {mg : Str → Option Value} {base : Heap}
theorem Fun.okStar {x qual : Str} {st : Stmt} {f : Addr} {fd : FuncData} {N ps : List Str} {pv : Str} {k : Nat} {sp : Sp} (F : Fun K x qual st f fd) (hb : BStar K fd ps pv) (S : FnScope N (ps ++ [pv]) (defScope st))
    (hbody : ∀ (cdv : Value) (A : Around) (outer : List Env) (s : Shared) (H : Hp) (vs : List V) (Q : VK) (E : XK), Room k (A.deeper (envOfC qual (defScope st) s.heap.objs.size f cdv)) → sp vs H Q E →
      ∃ t, PSs (cxOf (L2.CX P w) P w K mg base N qual (defScope st) f cdv A outer s H E) (defBody st) t ∧ t { nx := fun _ H' => Q .non H', rt := Q } (start N vs) H) : FnR P w K mg base (L2.CX P w) (k + 1) f (spStar ps.length sp) := by
  obtain ⟨oc, od, kV, doc, pm, an, cdv, ct, osl, rfl, lk, hcd⟩ := F.ex
  exact StX.fn_star lk hcd S StX.cxUp hb fun A outer s H vs Q E hr hsp => hbody cdv A outer s H vs Q E hr hsp
theorem FnOk.r {CX : CXT} {k : Nat} {f : Addr} {fd : FuncData} {ps : List Str} {sp : Sp} (F : FnOk P w K mg base CX k f fd ps sp) (hb : Binds K fd ps []) : FnR P w K mg base CX k f sp :=
  (F.raw hb .nil).imp fun vs H Q E h => by rw [List.append_nil]; exact h
end
/-! ### permutations -/
theorem perm_lift {α β : Type} {f : α → β} {ys zs : List β} (h : ys.Perm zs) : ∀ ps : List α, zs = ps.map f → ∃ ps' : List α, ps'.Perm ps ∧ ps'.map f = ys := by
  induction h with
  | nil =>
    intro ps e
    cases ps with
    | nil => exact ⟨[], .nil, rfl⟩
    | cons a t => cases e
  | cons x _ ih =>
    intro ps e
    cases ps with
    | nil => cases e
    | cons a t =>
      rw [List.map_cons] at e
      injection e with e1 e2
      obtain ⟨ps', h1, h2⟩ := ih t e2
      exact ⟨a :: ps', h1.cons a, by rw [List.map_cons, h2, ← e1]⟩
  | swap x y l =>
    intro ps e
    match ps, e with
    | a :: b :: t, e =>
      rw [List.map_cons, List.map_cons] at e
      injection e with e1 e2
      injection e2 with e2 e3
      exact ⟨b :: a :: t, .swap a b t, by rw [List.map_cons, List.map_cons, e1, e2, e3]⟩
    | [a], e => simp at e
    | [], e => simp at e
  | trans _ _ ih1 ih2 =>
    intro ps e
    obtain ⟨p1, h1, h2⟩ := ih2 ps e
    obtain ⟨p2, h3, h4⟩ := ih1 p1 h2.symm
    exact ⟨p2, h3.trans h1, h4⟩
/-! ### sorted texts -/
def leS (a b : Str) : Prop := a.cps.toList ≤ b.cps.toList
theorem leS_iff {a b : Str} : (!ltCps b.cps.toList a.cps.toList) = true ↔ leS a b := by
  rw [ltCps_eq]
  unfold leS
  rw [Bool.not_eq_true', decide_eq_false_iff_not]
  exact List.not_lt
theorem leS_trans {a b c : Str} (h : leS a b) (g : leS b c) : leS a c := List.le_trans h g
theorem leS_anti {a b : Str} (h : leS a b) (g : leS b a) : a = b := by
  have e : a.cps.toList = b.cps.toList := List.le_antisymm h g
  obtain ⟨a⟩ := a
  obtain ⟨b⟩ := b
  have e : a.toList = b.toList := e
  rw [Array.toList_inj.mp e]
theorem rising_pw : ∀ (r : List Str) (p : Str), risingS p r = true → (∀ x ∈ r, leS p x) ∧ r.Pairwise leS
  | [], _, _ => ⟨fun _ h => (nomatch h), .nil⟩
  | x :: r, p, h => by
    unfold risingS at h
    obtain ⟨h1, h2⟩ := Bool.and_eq_true_iff.mp h
    obtain ⟨g1, g2⟩ := rising_pw r x h2
    have hpx := leS_iff.mp h1
    refine ⟨fun y hy => ?_, .cons g1 g2⟩
    rcases List.mem_cons.mp hy with rfl | hy
    · exact hpx
    · exact leS_trans hpx (g1 y hy)
theorem sortedS_pw {l : List Str} (h : sortedS l = true) : l.Pairwise leS := by
  cases l with
  | nil => exact .nil
  | cons x r =>
    obtain ⟨h1, h2⟩ := rising_pw r x h
    exact .cons h1 h2
theorem pw_uniq {α : Type} {R : α → α → Prop} (anti : ∀ a b, R a b → R b a → a = b) : ∀ {l m : List α}, l.Perm m → l.Pairwise R → m.Pairwise R → l = m
  | [], m, p, _, _ => (List.nil_perm.mp p).symm ▸ rfl
  | x :: l, [], p, _, _ => by simp at p
  | x :: l, y :: m, p, h, g => by
    cases h with
    | cons h1 h2 =>
      cases g with
      | cons g1 g2 =>
        have e : x = y := by
          rcases List.mem_cons.mp (p.mem_iff.mp List.mem_cons_self : x ∈ y :: m) with e | hx
          · exact e
          · rcases List.mem_cons.mp (p.mem_iff.mpr List.mem_cons_self : y ∈ x :: l) with e | hy
            · exact e.symm
            · exact anti _ _ (h1 y hy) (g1 x hx)
        subst e
        rw [pw_uniq anti (List.Perm.cons_inv p) h2 g2]
theorem sortedS_uniq {l m : List Str} (p : l.Perm m) (h : sortedS l = true) (g : sortedS m = true) : l = m := pw_uniq (fun _ _ => leS_anti) p (sortedS_pw h) (sortedS_pw g)
/-- things sorted by texts that are all unlike: one arrangement -/
theorem sortedBy_uniq {α : Type} {f : α → Str} {l m : List α} (inj : ∀ a ∈ m, ∀ b ∈ m, f a = f b → a = b) (p : l.Perm m) (h : sortedS (l.map f) = true) (g : sortedS (m.map f) = true) : l = m := by
  have e := sortedS_uniq (p.map f) h g
  have key : ∀ (l m : List α), (∀ a ∈ l, ∀ b ∈ m, f a = f b → a = b) → l.map f = m.map f → l = m := by
    intro l
    induction l with
    | nil => intro m _ e; cases m with
      | nil => rfl
      | cons a t => cases e
    | cons a l ih => intro m i e; cases m with
      | nil => cases e
      | cons b t =>
        rw [List.map_cons, List.map_cons] at e
        injection e with e1 e2
        rw [i a List.mem_cons_self b List.mem_cons_self e1, ih t (fun a ha b hb => i a (List.mem_cons_of_mem _ ha) b (List.mem_cons_of_mem _ hb)) e2]
  exact key l m (fun a ha b hb => inj a (p.mem_iff.mp ha) b hb) e
/-! ### the dict of things by texts -/
def kvOf {α : Type} (f : α → Str) (v : α → V) (ps : List α) : List (Key × V) := ps.map fun a => (Sum.inr (f a), v a)
theorem valV_kv {α : Type} {f : α → Str} {v : α → V} : ∀ {ps : List α} {a : α}, (ps.map f).Nodup → a ∈ ps → valV (kvOf f v ps) (Sum.inr (f a)) = some (v a)
  | [], _, _, h => by cases h
  | b :: ps, a, nd, h => by
    rw [List.map_cons, List.nodup_cons] at nd
    show valV ((Sum.inr (f b), v b) :: kvOf f v ps) _ = _
    rcases List.mem_cons.mp h with rfl | h
    · exact valV_pos rfl
    · have ne : ¬ (Sum.inr (f b) : Key) = Sum.inr (f a) := fun z => by
        injection z with z
        exact nd.1 (z ▸ List.mem_map_of_mem h)
      rw [valV_neg (p := (Sum.inr (f b), v b)) ne]
      exact valV_kv nd.2 h
theorem valV_kv_none {α : Type} {f : α → Str} {v : α → V} {k : Str} : ∀ {ps : List α}, (valV (kvOf f v ps) (Sum.inr k)).isSome = decide (k ∈ ps.map f)
  | [] => rfl
  | b :: ps => by
    show (valV ((Sum.inr (f b), v b) :: kvOf f v ps) _).isSome = _
    by_cases e : f b = k
    · rw [valV_pos (p := (Sum.inr (f b), v b)) (by rw [e]), decide_eq_true (by rw [List.map_cons, e]; exact List.mem_cons_self)]; rfl
    · rw [valV_neg (p := (Sum.inr (f b), v b)) (fun z => e (by injection z)), valV_kv_none]
      by_cases h : k ∈ ps.map f
      · rw [decide_eq_true h, decide_eq_true (by rw [List.map_cons]; exact List.mem_cons_of_mem _ h)]
      · rw [decide_eq_false h, decide_eq_false]
        intro z
        rw [List.map_cons] at z
        rcases List.mem_cons.mp z with z | z
        · exact e z.symm
        · exact h z
theorem putK_kv {α : Type} {f : α → Str} {v : α → V} {ps : List α} {a : α} (h : f a ∉ ps.map f) : putK (kvOf f v ps) (Sum.inr (f a)) (v a) = kvOf f v (ps ++ [a]) := by
  unfold putK
  rw [valV_any, valV_kv_none, decide_eq_false h, if_neg (by decide)]
  unfold kvOf
  rw [List.map_append]; rfl
/-- the first text that stands there before -/
def dupP : List Str → List Str → Option Str
  | _, [] => none
  | seen, p :: r => if p ∈ seen then some p else dupP (seen ++ [p]) r
theorem dupP_none : ∀ {ps seen : List Str}, seen.Nodup → (dupP seen ps = none ↔ (seen ++ ps).Nodup)
  | [], seen, h => by simp [dupP, h]
  | p :: r, seen, h => by
    unfold dupP
    by_cases hp : p ∈ seen
    · rw [if_pos hp]
      refine ⟨fun z => (nomatch z), fun z => ?_⟩
      exact absurd hp fun hp => (List.nodup_append.mp z).2.2 p hp p List.mem_cons_self rfl
    · rw [if_neg hp, dupP_none (ps := r) (seen := seen ++ [p]) (by
        rw [List.nodup_append]
        exact ⟨h, by simp, fun a ha b hb e => hp (by rw [List.mem_singleton.mp hb] at e; rw [← e]; exact ha)⟩), List.append_assoc]
      rfl
theorem dupP_hit {p : Str} {r : List Str} : ∀ {l seen : List Str}, (seen ++ l).Nodup → p ∈ seen ++ l → dupP seen (l ++ p :: r) = some p
  | [], seen, _, h => by
    rw [List.append_nil] at h
    show (if p ∈ seen then some p else _) = _
    rw [if_pos h]
  | a :: l, seen, nd, h => by
    have ha : a ∉ seen := fun z => (List.nodup_append.mp nd).2.2 a z a List.mem_cons_self rfl
    show (if a ∈ seen then some a else dupP (seen ++ [a]) (l ++ p :: r)) = _
    rw [if_neg ha]
    have e : seen ++ a :: l = (seen ++ [a]) ++ l := by rw [List.append_assoc]; rfl
    rw [e] at nd h
    exact dupP_hit nd h
theorem prd_zip {α β : Type} {F : α → β → Prop} : ∀ {l₁ : List α} {l₂ : List β}, Paired F l₁ l₂ → ∀ p ∈ l₁.zip l₂, F p.1 p.2
  | _, _, .nil, p, h => by cases h
  | _, _, .cons r t, p, h => by
    rcases List.mem_cons.mp h with rfl | h
    · exact r
    · exact prd_zip t p h
theorem prd_of {α β : Type} {F : α → β → Prop} : ∀ {l : List (α × β)}, (∀ p ∈ l, F p.1 p.2) → Paired F (l.map Prod.fst) (l.map Prod.snd)
  | [], _ => .nil
  | p :: l, h => .cons (h p List.mem_cons_self) (prd_of fun q hq => h q (List.mem_cons_of_mem _ hq))
theorem take_snoc {α : Type} {l : List α} {i : Nat} {a : α} (h : l[i]? = some a) : l.take (i + 1) = l.take i ++ [a] := by
  have hi := (List.getElem?_eq_some_iff.mp h).1
  rw [List.take_succ, h]; rfl
theorem drop_at {α : Type} {l : List α} {i : Nat} {a : α} (h : l[i]? = some a) : l = l.take i ++ a :: l.drop (i + 1) := by
  obtain ⟨hi, e⟩ := List.getElem?_eq_some_iff.mp h
  conv => lhs; rw [← List.take_append_drop i l, List.drop_eq_getElem_cons hi, e]
theorem nodup_snoc {α : Type} {l : List α} {a : α} (h : l.Nodup) (n : a ∉ l) : (l ++ [a]).Nodup := by
  rw [List.nodup_append]
  exact ⟨h, by simp, fun x hx b hb e => n (by rw [List.mem_singleton.mp hb] at e; rw [← e]; exact hx)⟩
theorem zip_get {α β : Type} {l : List α} {m : List β} {i : Nat} {a : α} {b : β} (h : l[i]? = some a) (g : m[i]? = some b) : (l.zip m)[i]? = some (a, b) := by
  rw [List.getElem?_zip_eq_some]
  exact ⟨h, g⟩
end L2

/-! methods of built-in types, the text's part K named (within a comprehension) -/
namespace L2
open PySem PySem.Spec PyProof.Rows
section
variable {X : Cx} {K : PySem.W.Frag} {o e : Expr} {es : List Expr} {to te : TE} {t : TA} {name : Str} {p apos cpos : Pos} {T id : String} {r : V → List V → Hp → VK → Prop}
theorem pe_bmK (pa : PlainAttrs T) (slot : Slot T name id) (hty : typeOf (.builtin id) = pure (.type "method_descriptor")) (hm : MtR X id r) (ho : PE X o to) (ha : PA X (e :: es) t)
    (hbase : attributeBase o name X.env (eval o X.env) = eval o X.env := by rfl)
    (hfew : ((backTo cpos (starEach (e :: es) X.env)).all (fun x => !x.1) && (backToKw cpos (keywordEach [] X.env)).all (fun x => x.1.isSome)
      && decide ((e :: es).length + ([] : List Keyword).length + (if ([] : List Keyword).isEmpty then 0 else 1) < 30)) = true := by rfl)
    (hline : (apos.endLine == cpos.line) = true := by rfl) (hs : starEach (e :: es) X.env = (false, eval e X.env) :: starEach es X.env := by rfl) (hplain : (backTo cpos (starEach es X.env)).any (·.1) = false := by rfl) (hK : X.K = K := by rfl) :
    PE X (.Call (.Attribute o name apos) (e :: es) [] cpos) (tBM K T r to t) := hK ▸ pe_bm pa slot hty hm ho ha hbase hfew hline hs hplain
theorem pe_bm0K (pa : PlainAttrs T) (slot : Slot T name id) (hty : typeOf (.builtin id) = pure (.type "method_descriptor")) (hm : MtR X id r) (ho : PE X o to)
    (hbase : attributeBase o name X.env (eval o X.env) = eval o X.env := by rfl) (hline : (apos.endLine == cpos.line) = true := by rfl) (hK : X.K = K := by rfl) : PE X (.Call (.Attribute o name apos) [] [] cpos) (tBM0 K T r to) := hK ▸ pe_bm0 pa slot hty hm ho hbase hline
theorem pa_starK (he : PE X e te) (hr : PA X es t) (hs : starEach (.Starred e p :: es) X.env = (true, eval e X.env) :: starEach es X.env := by rfl) (hK : X.K = K := by rfl) : PA X (.Starred e p :: es) (StX.tStar K te t) := hK ▸ StX.pa_star he hr hs
theorem cr_sortedSK (hK : X.K = K := by rfl) : CallR X (.builtin "sorted") (rSortedS K) := hK ▸ cr_sortedS
end
end L2

/-! {**d, k: v}. -/
namespace PySem
open Sem (wp)
section
variable {prog : Program} {w : World} {K : Type} [DecidableEq K] {knd : KeyKind prog w K} {A : Around} {E : Value → Shared → Prop} {s : Shared}
theorem wpAny_dictPut_pairs {d : Addr} {kvs : List (K × Value)} {k : K} {key v : Value} {Q : Unit → Shared → Prop} (hkey : knd.is k key = true) (hm : s.heap.DictOf knd d kvs)
    (hQ : ∀ h', h'.DictOf knd d (stored kvs k v) → Heap.SameBut d s.heap h' → Q () { s with heap := h' })
    (hsz : kvs.length ≤ sizeLine := by size_fits) :
    wpAny (model prog w) A (dictPut d (knd.hash k) key v) Q E s := by
  obtain ⟨o, es, ep, ho, hc, hd, hk, hp, hn⟩ := hm
  have hes : es.size ≤ sizeLine := by have e1 := hp.length; have e2 : es.toList.length = es.size := by simp
                                      omega
  unfold dictPut
  refine wpAny_bind (wpAny_dictFind_of hkey ho hd hk ?_)
  have hidx : (es.findIdx? fun e => knd.is k e.key) = kvs.findIdx? fun kv => decide (kv.1 = k) := by
    rw [← hp.findIdx k]; obtain ⟨l⟩ := es; simp
  cases hi : es.findIdx? fun e => knd.is k e.key with
  | some i =>
    refine wpAny_updateDict ho hd (hQ _ ⟨_, _, ep, Heap.get?_update_self _ ho (Obj.isFreed_of_dict (Obj.data_mapDict hd _)),
      hc.mapDict _, Obj.data_mapDict hd _, hk.modify _ _, ?_, ?_⟩ (Heap.SameBut.update ..))
    · rw [stored, if_pos (any_of_findIdx_some (hidx ▸ hi))]
      have hl : (es.toList.findIdx? fun e => knd.is k e.key) = some i := by rw [← hi]; obtain ⟨l⟩ := es; simp
      have := hp.modify hn hl v
      obtain ⟨l⟩ := es
      simpa using this
    · rw [stored, if_pos (any_of_findIdx_some (hidx ▸ hi)), keys_map_store]; exact hn
  | none =>
    have hnot : k ∉ kvs.map (·.1) := not_mem_of_findIdx_none (hidx ▸ hi)
    have hany : ¬ (kvs.any fun kv => decide (kv.1 = k)) = true := by
      rw [List.any_eq_true]; rintro ⟨kv, hkv, he⟩
      exact hnot (List.mem_map.mpr ⟨kv, hkv, of_decide_eq_true he⟩)
    refine wpAny_updateDictKeys (hz := hes) ho hd (hQ _ ⟨_, _, ep + 1, Heap.get?_update_self _ ho (Obj.isFreed_of_dict (Obj.data_mapDictKeys hd _)),
      hc.mapDictKeys _, Obj.data_mapDictKeys hd _, hk.push hkey _, ?_, ?_⟩ (Heap.SameBut.update ..))
    · rw [stored, if_neg hany]
      have := hp.append hkey (knd.hash k) v
      obtain ⟨l⟩ := es
      simpa using this
    · rw [stored, if_neg hany, List.map_append, List.nodup_append]
      refine ⟨hn, by simp, ?_⟩
      intro a ha b hb
      simp only [List.map_cons, List.map_nil, List.mem_singleton] at hb
      subst hb
      exact fun e => hnot (e ▸ ha)
theorem wpAny_mergeMapping {d o : Addr} {kvs more : List (K × Value)} {Q : Unit → Shared → Prop} (hdo : d ≠ o) (hoS : (o == sysModules) = false) (flat : ∀ k v, knd.is k v = true → ∀ a, v ≠ .ref a)
    (hd : s.heap.DictOf knd d kvs) (ho : s.heap.DictOf knd o more)
    (hQ : ∀ h', h'.DictOf knd d (merged kvs more) → Heap.SameBut d s.heap h' → Q () { s with heap := h' })
    (hsz : kvs.length + more.length ≤ sizeLine := by size_fits) :
    wpAny (model prog w) A (mergeMapping d (.ref o) false) Q E s := by
  obtain ⟨od, esd, epd, hod, hcd, hdd, hkd, hpd, hnd⟩ := id hd
  obtain ⟨oo, eso, epo, hoo, hco, hdo', hko, hpo, hno⟩ := id ho
  have hlen : more.length = eso.size := by rw [← hpo.length]; simp
  have loop : wpAny (model prog w) A (do
      let l ← dictEntries o
      let epoch ← dictEpoch o
      forIn (List.range l.size) PUnit.unit fun i (_ : PUnit) => (do
          let l' ← dictEntries o
          match l'[i]? with
            | some e => do
              holding [e.key, e.val] (dictPut d e.hash e.key e.val)
              let ep' ← dictEpoch o
              if (ep' != epoch) = true then do
                  (unsupported "dict.changed-during-merge" : Sem PUnit)
                  pure (ForInStep.yield PUnit.unit)
                else pure (ForInStep.yield PUnit.unit)
            | _ => do
              (unsupported "dict.changed-during-merge" : Sem PUnit)
              pure (ForInStep.yield PUnit.unit) : Sem (ForInStep PUnit))
      pure ()) Q E s := by
    refine wpAny_bind (wpAny_dictEntries hoo hdo' ?_)
    refine wpAny_bind (wpAny_dictEpoch hoo hdo' ?_)
    refine wpAny_bind ?_
    refine wpAny_forIn_list _
      (fun rest _ s' => ∃ h' i, s' = { s with heap := h' } ∧ rest = (List.range eso.size).drop i ∧ i ≤ eso.size ∧ h'.DictOf knd d (merged kvs (more.take i)) ∧ h'.get? o = some oo ∧ Heap.SameBut d s.heap h')
      _ ?_ ?_ _ _ ⟨s.heap, 0, rfl, by simp, Nat.zero_le _, by simpa [merged] using hd, hoo, Heap.SameBut.refl _ _⟩
    · rintro x rest b s' ⟨h', i, rfl, hr, hi, hd', hoo', hs'⟩
      have hlt : i < eso.size := by
        rcases Nat.lt_or_ge i eso.size with h | h
        · exact h
        · rw [List.drop_eq_nil_of_le (by simpa using h)] at hr; cases hr
      obtain ⟨rfl, hrest⟩ : x = i ∧ rest = (List.range eso.size).drop (i + 1) := by
        rw [List.drop_eq_getElem_cons (by simpa using hlt)] at hr
        injection hr with h1 h2
        exact ⟨by rw [h1]; simp, h2⟩
      refine wpAny_bind (wpAny_dictEntries hoo' hdo' ?_)
      rw [Array.getElem?_eq_getElem hlt]
      obtain ⟨kv, hkv⟩ : ∃ kv, more[x]? = some kv := ⟨more[x]'(by rw [hlen]; exact hlt), List.getElem?_eq_getElem _⟩
      obtain ⟨k, v⟩ := kv
      obtain ⟨hkey, hval⟩ := hpo.get? (e := eso[x]) (by simp [hlt]) hkv
      obtain ⟨k', hkey', hhash⟩ := hko eso[x] (Array.getElem_mem hlt)
      obtain rfl : k' = k := knd.inj _ _ _ hkey' hkey
      show wpAny _ _ (holding [eso[x].key, eso[x].val] (dictPut d eso[x].hash eso[x].key eso[x].val) >>= _) _ _ _
      rw [hhash, hval]
      have hmx : (merged kvs (more.take x)).length ≤ sizeLine := by
        have e1 := merged_length_le kvs (more.take x)
        have e2 : (more.take x).length ≤ more.length := by rw [List.length_take]; omega
        omega
      refine wpAny_bind (wpAny_holding (wpAny_dictPut_pairs (hsz := hmx) hkey hd' fun h'' hd'' hs'' => ?_))
      have hoo'' : h''.get? o = some oo := (hs''.2 o (Ne.symm hdo)).trans hoo'
      refine wpAny_bind (wpAny_dictEpoch hoo'' hdo' ?_)
      rw [if_neg (by simp)]
      exact wpAny_pure ⟨h'', x + 1, rfl, hrest, hlt, by rw [merged_take_succ kvs more x (k', v) hkv]; exact hd'', hoo'', hs'.trans hs''⟩
    · rintro b s' ⟨h', i, rfl, hr, hi, hd', hoo', hs'⟩
      have hin : i = eso.size := by
        rcases Nat.lt_or_ge i eso.size with h | h
        · rw [List.drop_eq_getElem_cons (by simpa using h)] at hr; cases hr
        · exact Nat.le_antisymm hi h
      refine wpAny_pure (hQ h' ?_ hs')
      rw [hin, ← hlen, List.take_length] at hd'; exact hd'
  unfold mergeMapping
  refine wpAny_bind (wpAny_isInstance ho.typeIs isSubtype_dict_dict ?_)
  simp only [if_true]
  refine wpAny_bind (wpAny_specialOf ho.typeIs F.slot_dict_iter.lookup ?_)
  refine wpAny_bind (wpAny_pure ?_)
  simp only [beq_self_eq_true]
  rw [if_neg (by rw [hoS]; exact Bool.false_ne_true)]
  refine wpAny_bind (wpAny_dictEntries hod hdd ?_)
  have loop' := loop
  split
  · refine wpAny_bind (wpAny_dictEntries hoo hdo' ?_)
    refine wpAny_bind ?_
    rw [← Array.forIn_toList]
    refine wpAny_forIn_list _ (fun rest _ s' => s' = s ∧ ∀ e ∈ rest, e ∈ eso.toList) _ ?_ ?_ _ _ ⟨rfl, fun e h => h⟩
    · rintro e rest b s' ⟨rfl, hm⟩
      obtain ⟨k', hkey', _⟩ := hko e (by simpa using hm e List.mem_cons_self)
      have hf := flat k' e.key hkey'
      split
      · rename_i a ha; exact absurd ha (hf a)
      · exact wpAny_pure ⟨rfl, fun e h => hm e (List.mem_cons_of_mem _ h)⟩
    · rintro b s' ⟨rfl, _⟩
      simp only [Bool.false_eq_true, if_false]; exact loop'
  · simp only [Bool.false_eq_true, if_false]; exact loop'
end
end PySem

/-! tuple(d.items()); == and != of dicts with both answers. -/
namespace PySem.W
open PySem PySem.Calls PyProof.Rows PyProof.V PySem.Spec
section
variable {prog : Program} {w : World} {K : Type} [DecidableEq K] {knd : KeyKind prog w K} {A : Around} {E : Value → Shared → Prop} {s : Shared} {r d : Addr} {kvs : List (K × Value)} {ep : Nat}
theorem code_tuple_new_items {Q₁ : Value → Shared → Prop} (hh : A.handled = none) (hv : s.heap.IsItemsView r d) (hm : s.heap.DictAt knd d kvs ep) (hn : kvs.length ≤ sizeLine)
    (h : ∀ (h' : Heap) (tk : Nat) (as : List Addr), (∀ b o, s.heap.get? b = some o → h'.get? b = some o) → as.length = kvs.length → KdxG knd kvs s.heap.objs.size h' as →
      Q₁ (.ref h'.objs.size) { s with heap := h'.push { cls := .type "tuple", data := .seq (as.map Value.ref).toArray }, toks := tk }) :
    codeAny (model prog w) A (.call (.builtin "tuple.__new__") ⟨[.type "tuple", .ref r], []⟩) (wants Q₁ E) s := by
  refine codeAny_of_tree ?_
  show wpAny _ A.in1 (do checkBuiltinCall "tuple.__new__" ⟨[.type "tuple", .ref r], []⟩; again (.builtin "tuple.__new__" ⟨[.type "tuple", .ref r], []⟩)) _ _ s
  refine wpAny_bind (wpAny_of_eq (F.newCall_tuple_1 _) (wpAny_pure ⟨plainId_quiet F.plain_tuple_new _, codeAny_builtin F.entry_tuple_new ?_⟩))
  rw [Around.under_plainId F.plain_tuple_new _]
  have hsub := sub_tuple_self
  have hinit := init_tuple_lookup
  have hmh := madeHere_tuple
  have hTI : s.TypeIs (.ref r) "dict_items" := hv.typeIs
  have hh1 : A.in1.handled = none := hh
  wp_walk using wpAny_typeOf hTI, kdx_collect (A := A.in1) (knd := knd) (kvs := kvs) (ep := ep) hh1 hv hm hn
  intro h' tk as hk hl hG
  show wpAny _ _ (Builtin.Tuple.tupleExact (as.map Value.ref).toArray >>= fun v => ret v) _ _ _
  unfold Builtin.Tuple.tupleExact
  refine wpAny_bind (wpAny_newObj_type ?_ (by show (as.map Value.ref).toArray.size ≤ sizeLine; simp only [List.size_toArray, List.length_map]; omega))
  exact wpAny_pure (h h' tk as hk hl hG)
theorem call_tuple_items {Q : Value → Shared → Prop} (hh : A.handled = none) (hv : s.heap.IsItemsView r d) (hm : s.heap.DictAt knd d kvs ep) (hn : kvs.length ≤ sizeLine)
    (hQ : ∀ (h' : Heap) (tk : Nat) (as : List Addr), (∀ b o, s.heap.get? b = some o → h'.get? b = some o) → as.length = kvs.length → KdxG knd kvs s.heap.objs.size h' as →
      Q (.ref h'.objs.size) { s with heap := h'.push { cls := .type "tuple", data := .seq (as.map Value.ref).toArray }, toks := tk }) :
    wpAny (model prog w) A (call (.type "tuple") [.ref r]) Q E s := by
  refine callType_codes (Q₁ := fun obj s₁ => s₁.TypeIs obj "tuple" ∧ Q obj s₁) F.called_tuple (F.typeCall_tuple_1 _) F.entry_object_init
    (code_tuple_new_items (A := A.in1) hh hv hm hn fun h' tk as hk hl hG => ⟨⟨_, Heap.get?_push_size _ rfl, rfl⟩, hQ h' tk as hk hl hG⟩) fun obj s₁ h₁ => ?_
  exact ⟨h₁.1, F.args_object_init_2 obj _, object_init_meets F.called_tuple.init.lookup F.called_tuple.made (by decide) prog w A.in1 _ s₁ ⟨h₁.1, rfl, h₁.2⟩⟩
end
end PySem.W
namespace L2
open PySem PySem.Spec PyProof.Rows LiI
/-- tuple(d.items()) -/
def rItemsT : V → Hp → VK → Prop := fun x H Q => ∃ (d : Addr) (kvs : List (Key × V)), x = .ref d ∧ H d = some (.dK kvs) ∧
  ∀ (H' : Hp) (p : Addr) (ts : List Addr), (∀ b o, H b = some o → H' b = some o) → H p = none → (∀ t ∈ ts, H t = none) → p ∉ ts → H' p = some (.tup (ts.map V.ref)) → Paired (fun (t : Addr) (q : Key × V) => H' t = some (.tup [kV q.1, q.2])) ts kvs → Q (.ref p) H'
def tTupItems (te : TE) : TE := fun σ H Q => te σ H fun x H1 => rItemsT x H1 Q
section
variable {X : Cx} {e : Expr} {te : TE} {p apos cpos pos : Pos}
theorem items_laidT {pins : List (Addr × Obj)} {σ : L2.St} {H : Hp} {s : Shared} {h' : Heap} {tk : Nat} {kvs : List (Key × V)} {vs : List (Key × Value)} {as : List Addr} (I : Inv X pins σ H s) (hz : kvs.length ≤ sizeLine) (kv : KV kvs vs)
    (hk : ∀ b o, s.heap.get? b = some o → h'.get? b = some o) (hl : as.length = vs.length) (hG : PySem.W.KdxG (mixKind X.prog X.w) vs s.heap.objs.size h' as) :
    ∃ H' : Hp, (∀ b o, H b = some o → H' b = some o) ∧ H h'.objs.size = none ∧ (∀ t ∈ as, H t = none) ∧ h'.objs.size ∉ as ∧ H' h'.objs.size = some (.tup (as.map V.ref)) ∧ Paired (fun (t : Addr) (q : Key × V) => H' t = some (.tup [kV q.1, q.2])) as kvs ∧
      Inv X pins σ H' { s with heap := h'.push { cls := .type "tuple", data := .seq (as.map Value.ref).toArray }, toks := tk } := by
  have lk : kvs.length = vs.length := Paired.length kv
  have nd : as.Nodup := List.Pairwise.imp (fun {a b} (h : a < b) => Nat.ne_of_lt h) hG.rise
  have new : ∀ t ∈ as, H t = none := fun t ht => I.hok.fresh (Nat.le_of_lt (hG.above t ht))
  have atP := putT_at as kvs H (by omega) nd
  have low : ∀ b o, s.heap.get? b = some o → b ∉ as := fun b o e z => absurd (Heap.lt_size e) (Nat.not_lt.mpr (Nat.le_of_lt (hG.above b z)))
  have kp : ∀ b u, H b = some u → (putT H as kvs) b = some u := fun b u e => by
    rw [putT_off as kvs _ (fun z => by rw [new b z] at e; cases e)]
    exact e
  have I1 : Inv X pins σ (putT H as kvs) { s with heap := h', toks := tk } := by
    refine I.call' (ch := []) rfl ⟨fun b o q _ _ _ => hk b o q, fun b o q _ _ _ => ⟨o.slots, hk b o q⟩, fun b o q n _ => ?_, fun b o q _ => ⟨o, hk b o q⟩, fun b xs q => kp b _ q, fun b o u q => kp b _ q, fun b ps q => ⟨#[], by rw [kp b _ q]; simp⟩⟩ (fun b u q => ?_) I.bare fun b z => by simp at z
    · rw [putT_off as kvs _ (low b o q)]
      exact n
    · by_cases hb : b ∈ as
      · obtain ⟨j, pk, e1, e2, e3⟩ := paired_ix atP hb
        rw [e3] at q
        cases q
        obtain ⟨key, k, x, f1, f2, f3⟩ := hG.pairs j b e1
        obtain ⟨qv, g1, g2, g3⟩ := paired_get kv e2
        rw [f1] at g1
        cases g1
        have rk : RelV (kV pk.1) key := by
          rw [g2]
          exact relV_key (show keyIs k key = true from f2)
        exact ⟨by show 2 ≤ sizeLine; decide, [key, x], .cons rk (.cons g3 .nil), ⟨_, f3, rfl, _, rfl⟩⟩
      · rw [putT_off as kvs _ hb] at q
        exact (I.hok b u q).stay (fun d v _ y => hk d v y) (fun d y => kp d _ y) fun d xs y => kp d _ y
  have fresh2 : putT H as kvs h'.objs.size = none := I1.hok.fresh (Nat.le_refl _)
  have hnot : h'.objs.size ∉ as := fun z => Nat.lt_irrefl _ (hG.there z)
  have fresh : H h'.objs.size = none := by rw [putT_off as kvs _ hnot] at fresh2; exact fresh2
  refine ⟨upd (putT H as kvs) h'.objs.size (.tup (as.map V.ref)), fun b o q => ?_, fresh, new, hnot, upd_same .., ?_, ?_⟩
  · rw [upd_ne (fun z => by rw [z, fresh] at q; cases q)]
    exact kp b o q
  · have key : ∀ {as : List Addr} {kvs : List (Key × V)} {G : Hp} {a : Addr} {o : HO}, a ∉ as → Paired (fun (t : Addr) (p : Key × V) => G t = some (.tup [kV p.1, p.2])) as kvs → Paired (fun (t : Addr) (p : Key × V) => upd G a o t = some (.tup [kV p.1, p.2])) as kvs := by
      intro as kvs G a o hn hp
      induction hp with
      | nil => exact .nil
      | cons h t ih => exact .cons (by rw [upd_ne (fun z => hn (by rw [z]; exact List.mem_cons_self))]; exact h) (ih fun z => hn (List.mem_cons_of_mem _ z))
    exact key hnot atP
  · exact I1.laid (t' := tk) (fun b o e => Heap.get?_push_of_some _ e) (Nat.le_refl _) (show ObjOk X.prog X.w _ _ _ (.tup (as.map V.ref)) from ⟨by rw [List.length_map]; omega, as.map Value.ref, LiI.vals_refs as, IsTup.new _ _⟩)
theorem pe_tupItems (hc : X.calm = true) (he : PE X e te) (hg : Gl X "tuple") (hm : X.mg "tuple" = none) (hv : bootBuiltins "tuple" = some (.type "tuple")) (hbase : attributeBase e "items" X.env (eval e X.env) = eval e X.env := by rfl) (hline : (apos.endLine == cpos.line) = true := by rfl)
    (hs : starEach [.Call (.Attribute e "items" apos) [] [] cpos] X.env = (false, eval (.Call (.Attribute e "items" apos) [] [] cpos) X.env) :: starEach [] X.env := by rfl) :
    PE X (.Call (.Name "tuple" p) [.Call (.Attribute e "items" apos) [] [] cpos] [] pos) (tTupItems te) := by
  refine ⟨fun pins s σ H Q I hq => ?_⟩
  refine wpAny_Call_Name_kw (ld_blt I hg hm hv ?_)
  refine PyProof.Rows.callWith_type1 ?_ hs rfl
  rw [hs]
  show wpAny _ _ (spliced ((false, eval (.Call (.Attribute e "items" apos) [] [] cpos) X.env) :: backTo pos (starEach [] X.env))) _ _ s
  refine Calls.spliced_cons ?_
  refine wpAny_Call_method (T := "dict") (id := "dict.items") hbase rfl hline F.plainAttrs_dict F.slot_dict_items F.type_dict_items (thn (he.run pins s σ H _ I hq) fun u s1 ⟨x, H1, I1, rx, d, kvs, ex, hd, q⟩ => ?_)
  subst ex
  obtain rfl : u = Value.ref d := rx
  obtain ⟨hz, hs0, vs, kv, hdo⟩ := I1.hok d _ hd
  obtain ⟨ep, hat⟩ := hdo.dictAt
  have lk : kvs.length = vs.length := Paired.length kv
  have I2 : Inv X pins σ H1 { s1 with heap := s1.heap.push { cls := .type "dict_items", data := .fields #[.ref d] } } := I1.kept (t' := s1.toks) fun b ob q => Heap.get?_push_of_some _ q
  refine ⟨hdo.typeIs, hdo.mapOf.noDict, ?_⟩
  show wpAny _ _ (callWith cpos (.builtin "dict.items") [.ref d] [] []) _ X.xe s1
  refine method_meetsIn F.slot_dict_items F.entry_dict_items rfl (PySem.evalArgs_none ⟨rfl, hdo.typeIs, F.args_dict_items_1 _, _, meets_dict_items (mixKind X.prog X.w) d hs0, ⟨vs, hdo⟩, ?_⟩)
  refine Calls.spliced_nil ?_
  refine PySem.W.call_tuple_items (knd := mixKind X.prog X.w) (kvs := vs) (ep := ep) (I1.ok.hd hc) ⟨_, Heap.get?_push_size _ rfl, rfl, rfl⟩ (hat.push _) (by omega) fun h' tk as hk hl hG => ?_
  obtain ⟨H', k1, k2, k3, k4, k5, k6, J⟩ := items_laidT (tk := tk) I2 hz kv hk hl hG
  exact ⟨.ref _, H', J, rfl, q H' _ as k1 k2 k3 k4 k5 k6⟩
end
end L2

/-! {**d, k: v}, dict(d), == of dicts of data; enumerate(tuple); extend by a tuple. -/
namespace PySem
open Sem (wp)
open AutoSeq1 (wpAny_loadPart')
theorem meets_enumerate_newT (l : Addr) (items : Array Value) (n : Nat) (dct : Option Addr) (sl : Array (Option Value)) :
    Meets (Builtin.«enumerate.__new__» ⟨[.type "enumerate", .ref l], []⟩) (fun _ R s => s.heap.get? l = some { cls := .type "tuple", dict := dct, data := .seq items n, slots := sl } ∧
      R (.ok (.ret (.ref (s.heap.push { cls := .type "tuple_iterator", data := .fields #[.ref l, .int 0 0] }).objs.size)))
        { s with heap := (s.heap.push { cls := .type "tuple_iterator", data := .fields #[.ref l, .int 0 0] }).push { cls := .type "enumerate", data := .fields #[.none, .bool false, .ref s.heap.objs.size, rawInt 0, .none, .none] } }) :=
  .of_wp fun prog w A R s h => by
    obtain ⟨hp, g, d, tk, os⟩ := s; obtain ⟨hl, h⟩ := h
    have hsub := sub_enumerate
    have hL : Heap.IsTuple (Shared.heap ⟨hp, g, d, tk, os⟩) l items := ⟨_, hl, rfl, n, rfl⟩
    wp_walk using wpAny_loadPart' hl
    refine wpAny_stack_any fun st => wpAny_pure ?_
    split
    · rename_i c _ _ _ _ _
      cases (c == Value.type "enumerate")
      · wp_walk using wpAny_loadPart' hl, wpAny_pyIter_tuple hL
        exact ⟨_, rfl, h⟩
      · wp_walk using wpAny_loadPart' hl, wpAny_pyIter_tuple hL
        exact ⟨_, rfl, h⟩
    · wp_walk using wpAny_loadPart' hl, wpAny_pyIter_tuple hL
      exact ⟨_, rfl, h⟩
theorem list_extend_tupG (l : Addr) (items : Array Value) (n : Nat) (b : Addr) (items2 : Array Value) (n2 : Nat) (dd : Option Addr) (sl : Array (Option Value)) (hs0 : ¬(!items.isEmpty && Builtin.List.listTooLong (items.size + items2.size)) = true) (hs1 : items.size ≤ sizeLine) (hs2 : items.size + items2.size ≤ sizeLine + 1) :
    Meets (Builtin.«list.extend» ⟨[.ref l, .ref b], []⟩) (fun _ R s => s.heap.get? l = some { cls := .type "list", dict := none, data := .seq items n, slots := #[] } ∧ s.heap.get? b = some { cls := .type "tuple", dict := dd, data := .seq items2 n2, slots := sl } ∧ R (.ok (.ret Value.none)) { s with heap := s.heap.update l (Obj.mapSeq fun x => x ++ items2), toks := s.toks }) :=
  .of_wp fun prog w A R s h => by
    obtain ⟨hp, g, d, tk, os⟩ := s; obtain ⟨hl, hb, h⟩ := h; have f1 := AutoSeq1.idx_int; have f2 := AutoSeq1.sub_tuple_tuple; have f3 := AutoSeq1.sub_list_list; have f4 := AutoSeq1.sub_tuple_list; have f5 := AutoSeq1.sub_list_tuple;
    have hz' : (items ++ items2).size ≤ sizeLine + 1 := by rw [Array.size_append]; exact hs2
    wp_walk using (wpAny_updateSeq hl rfl (hz := hs1) (_hz' := hz')), wpAny_loadPart' hl, wpAny_loadPart' hb; exact ⟨_, rfl, h⟩
section
variable {prog : Program} {w : World} {A : Around} {E : Value → Shared → Prop} {s : Shared}
theorem call_enumerate_tuple {l : Addr} {items : Array Value} {Q : Value → Shared → Prop} (hL : s.heap.IsTuple l items)
    (h : ∀ h', IsEnum h' (s.heap.objs.size + 1) s.heap.objs.size 0 .none → h'.IsTupleIter s.heap.objs.size l 0 → h'.objs.size = s.heap.objs.size + 2 →
      (∀ b o, s.heap.get? b = some o → h'.get? b = some o) → Q (.ref (s.heap.objs.size + 1)) { s with heap := h' }) :
    wpAny (model prog w) A (call (.type "enumerate") [.ref l]) Q E s := by
  obtain ⟨⟨c, dct, dt, sl⟩, hl, hc, n, hd⟩ := hL
  replace hc : c = .type "tuple" := hc
  replace hd : dt = .seq items n := hd
  subst hc hd
  refine callType_new F.called_enumerate (by decide) (F.typeCall_enumerate_1 _) (F.newCall_enumerate_1 _) (fun obj => F.args_object_init_2 obj _) F.entry_enumerate_new
    (meets_enumerate_newT l items n dct sl) ⟨hl, ?_⟩
  have hz : (s.heap.push { cls := .type "tuple_iterator", data := .fields #[.ref l, .int 0 0] }).objs.size = s.heap.objs.size + 1 := Heap.size_push ..
  show _ ∧ _
  rw [hz]
  have he : IsEnum ((s.heap.push { cls := .type "tuple_iterator", data := .fields #[.ref l, .int 0 0] }).push
      { cls := .type "enumerate", data := .fields #[.none, .bool false, .ref s.heap.objs.size, rawInt 0, .none, .none] }) (s.heap.objs.size + 1) s.heap.objs.size 0 .none := by
    have := Heap.get?_push_size (s.heap.push { cls := .type "tuple_iterator", data := .fields #[.ref l, .int 0 0] })
      (o := { cls := .type "enumerate", data := .fields #[.none, .bool false, .ref s.heap.objs.size, rawInt 0, .none, .none] }) rfl
    rw [hz] at this; exact this
  refine ⟨⟨_, he, rfl⟩, h _ he ⟨_, Heap.get?_push_of_some _ (Heap.get?_push_size _ rfl), rfl, rfl⟩ (by rw [Heap.size_push, hz]) fun b o x => Heap.get?_push_of_some _ (Heap.get?_push_of_some _ x)⟩
end
end PySem
namespace L2
open PySem PySem.Spec PyProof.Rows
/-! ### enumerate(tuple) -/
def IteT (K : PySem.W.Frag) (a : Addr) : It :=
  ⟨fun i H => ∃ (xs : List V) (x : V), SqT K H a xs ∧ xs[i]? = some x, fun i H v H' => ∃ T x, v = .ref T ∧ H T = none ∧ H' = upd H T (.tup [.int (i : Nat), x]) ∧ ∀ xs, SqT K H a xs → xs[i]? = some x, fun i H => ∃ xs : List V, SqT K H a xs ∧ xs.length = i⟩
theorem turn_enumT {P : Program} {w : World} {K : PySem.W.Frag} {elts : List Expr} {kk : Nat} {tpos : Pos} (a e it : Addr) :
    Turn P w K (.Tuple elts kk tpos) (IteT K a) [e, it] e (fun i h => (∃ old, IsEnum h e it ((i : Nat) : Int) old) ∧ h.IsTupleIter it a i ∧ e ≠ it) where
  mem := by simp
  obj := fun i h st b hb => by
    obtain ⟨⟨old, he⟩, ⟨o, ho, hc, hd⟩, _⟩ := st
    have e' : b = e ∨ b = it := by simpa using hb
    rcases e' with z | z
    · rw [z]; exact ⟨_, he, fun v q => nomatch q⟩
    · rw [z]; exact ⟨o, ho, fun v q => by rw [hd] at q; cases q⟩
  keep := fun i h h' st k => let ⟨⟨old, he⟩, hi, hne⟩ := st; ⟨⟨old, k e (by simp) _ he⟩, hi.at fun o q => k it (by simp) o q, hne⟩
  item := by
    intro X hP hw hK hc i pins s σ H E I hf st hg
    subst hP hw hK
    obtain ⟨⟨old, he⟩, hit, hne⟩ := st
    obtain ⟨xs, x, hq, hx⟩ := hg
    obtain ⟨its, rv, p, hz⟩ := I.tuple hq
    obtain ⟨u, hu, ru⟩ := rv.get hx
    have hel : e < s.heap.objs.size := Heap.lt_size he
    have hil : it < s.heap.objs.size := by obtain ⟨_, q, _⟩ := hit; exact Heap.lt_size q
    have pT : s.heap.IsTuple a its.toArray := p
    have hae : a ≠ it := by
      intro z
      obtain ⟨o1, g1, c1, _⟩ := hit
      obtain ⟨o2, g2, c2, _⟩ := pT
      rw [z, g1] at g2
      cases g2
      rw [c1] at c2
      exact absurd c2 (by decide)
    have hef : e ∉ [it, a] := by
      intro z
      rcases List.mem_cons.mp z with z | z
      · exact hne z
      · have z := List.mem_singleton.mp z
        obtain ⟨o2, g2, c2, _⟩ := pT
        rw [← z] at g2
        have he2 : s.heap.get? e = some _ := he
        rw [he2] at g2
        cases g2
        injection c2 with c2
        exact absurd c2 (by decide)
    have hi' : i < its.toArray.size := by
      have := (List.getElem?_eq_some_iff.mp hu).1
      simpa using this
    refine wpAny_pyNext_enum_itemD (Draws.tuple (A := X.A.in1) (I.ok.hd hc) it a hae its.toArray) he ⟨hit, pT⟩ hi' hne hef fun x' h' tk hx' ho hit' hT hsz hk => ?_
    have ex : x' = u := by
      have hu' : its.toArray[i]? = some u := by simpa using hu
      rw [hu'] at hx'
      exact (Option.some.inj hx').symm
    subst ex
    refine ⟨_, rfl, wpAny_letOwnedTupleGo_enum (s := { s with heap := h', toks := tk + 1 }) ho fun h'' he' sb => ?_⟩
    have hT2 : h''.get? s.heap.objs.size = some { cls := .type "tuple", data := .seq #[.int i tk, x'] } := (sb.2 _ (Nat.ne_of_gt hel)).trans hT
    have new : ObjOk X.prog X.w (upd H s.heap.objs.size (.tup [.int (i : Nat), x])) h'' s.heap.objs.size (.tup [.int (i : Nat), x]) :=
      ⟨by show 2 ≤ sizeLine; decide, [.int i tk, x'], .cons ⟨_, rfl⟩ (.cons ru .nil), ⟨_, hT2, rfl, _, rfl⟩⟩
    have I1 : Inv X pins σ (upd H s.heap.objs.size (.tup [.int (i : Nat), x])) { s with heap := h'', toks := tk + 1 } :=
      I.turnedNew (ch := [e, it]) (fun b ob hb q => (sb.2 b (fun z => hb (by simp [z]))).trans (hk b ob (fun z => hb (by simp [z])) (fun z => hb (by simp [z])) q)) hf (Nat.le_refl _) new
    refine ⟨.ref s.heap.objs.size, _, I1, rfl, ⟨_, x, rfl, I.hok.fresh (Nat.le_refl _), rfl, fun ys hy => by rw [I.tuple_inj hy hq]; exact hx⟩, ⟨⟨x', ?_⟩, hit'.1.at fun o q => (sb.2 it (Ne.symm hne)).trans q, hne⟩, fun b hb => ?_⟩
    · have e1 : ((i + 1 : Nat) : Int) = (i : Int) + 1 := by omega
      rw [e1]; exact he'
    · have hb' : b < s.heap.objs.size := by
        have e' : b = e ∨ b = it := by simpa using hb
        rcases e' with z | z
        · rw [z]; exact hel
        · rw [z]; exact hil
      rw [upd_ne (Nat.ne_of_lt hb')]
      exact (hf b hb).1
  done := by
    intro X hP hw hK hc i pins s σ H E I hf st hg
    subst hP hw hK
    obtain ⟨⟨old, he⟩, hit, hne⟩ := st
    obtain ⟨xs, hq, hx⟩ := hg
    obtain ⟨its, rv, p, hz⟩ := I.tuple hq
    obtain ⟨f0, f1, f2, f3, f4, f5⟩ := hf it (by simp)
    have hl := rv.length
    have pT : s.heap.IsTuple a its.toArray := p
    have hae : a ≠ it := by
      intro z
      obtain ⟨o1, g1, c1, _⟩ := hit
      obtain ⟨o2, g2, c2, _⟩ := pT
      rw [z, g1] at g2
      cases g2
      rw [c1] at c2
      exact absurd c2 (by decide)
    have hlt : its.toArray.size = i := by simp only [List.size_toArray]; omega
    have hit' : s.heap.IsTupleIter it a its.toArray.size := by rw [hlt]; exact hit
    exact wpAny_pyNext_enum_endD (Draws.tuple (A := X.A.in1) (I.ok.hd hc) it a hae its.toArray) he ⟨hit', pT⟩ fun h' eb => ⟨rfl, I.turned (t' := s.toks) (fun b o hb q => eb b o hb q) f0 f1 f3 f4 f5⟩
  self := fun A i s Q E st h => let ⟨⟨_, he⟩, _⟩ := st; wpAny_pyIter_enum he h

def iEnumT (K : PySem.W.Frag) (ta : TA) : TI := fun σ H R => ta σ H fun vs H1 => ∃ a xs, vs = [.ref a] ∧ SqT K H1 a xs ∧ R (IteT K a) H1
theorem pi_enumT {X : Cx} {e : Expr} {ta : TA} {p pos tpos : Pos} {elts : List Expr} {kk : Nat} (hg : Gl X "enumerate") (hm : X.mg "enumerate" = none) (ha : PA X [e] ta) (hs : starEach [e] X.env = [(false, eval e X.env)] := by rfl) :
    PI X (.Tuple elts kk tpos) (.Call (.Name "enumerate" p) [e] [] pos) (iEnumT X.K ta) := by
  refine ⟨fun pins s σ H R I h => ?_⟩
  refine Call_ (ld_blt I hg hm boot_enumerate (PyProof.Rows.callWith_type1 (thn (ha.run pos pins s σ H _ I h) fun us s1 ⟨vs, H1, I1, r1, q1⟩ => ?_) hs rfl))
  obtain ⟨a, xs, ex, hq, q⟩ := q1
  subst ex
  cases r1 with
  | cons r rr =>
    cases rr
    cases r
    obtain ⟨its, rv, p', hz⟩ := I1.tuple hq
    refine call_enumerate_tuple (show s1.heap.IsTuple a its.toArray from p') fun h' he hit hsz hk => wpAny_pyIter_enum he ?_
    have I2 : Inv X pins σ H1 { s1 with heap := h' } := I1.kept (t' := s1.toks) hk
    refine ⟨s1.heap.objs.size + 1, [s1.heap.objs.size + 1, s1.heap.objs.size], _, _, H1, rfl, I2, turn_enumT a (s1.heap.objs.size + 1) s1.heap.objs.size, ⟨⟨.none, he⟩, hit, Nat.succ_ne_self _⟩, fun b hb => ?_, q⟩
    have e' : b = s1.heap.objs.size + 1 ∨ b = s1.heap.objs.size := by simpa using hb
    have hle : s1.heap.objs.size ≤ b := by
      rcases e' with z | z
      · rw [z]; exact Nat.le_add_right _ _
      · rw [z]; exact Nat.le_refl _
    exact I1.fpOk hle (I1.hok.fresh hle)
theorem pi_enumTK {X : Cx} {K : PySem.W.Frag} {e : Expr} {ta : TA} {p pos tpos : Pos} {elts : List Expr} {kk : Nat} (hg : Gl X "enumerate") (hm : X.mg "enumerate" = none) (ha : PA X [e] ta) (hK : X.K = K := by rfl) (hs : starEach [e] X.env = [(false, eval e X.env)] := by rfl) :
    PI X (.Tuple elts kk tpos) (.Call (.Name "enumerate" p) [e] [] pos) (iEnumT K ta) := hK ▸ pi_enumT hg hm ha hs
theorem walk_enumT {K : PySem.W.Frag} {a : Addr} {xs : List V} : Walk (IteT K a) xs.length (fun H => SqT K H a xs) (YPair (fun i => some (.int (i : Nat))) (fun i => xs[i]?)) := by
  refine ⟨fun i _ hi q => ⟨xs, xs[i], q, by simp [hi]⟩, fun _ q => ⟨xs, q, rfl⟩, fun i H v H' _ q y => ?_⟩
  obtain ⟨T, x, h1, h2, h3, h4⟩ := y
  exact ⟨T, .int (i : Nat), x, h1, h2, h3, rfl, h4 xs q⟩
/-! ### list.extend, of a list or a tuple -/
def rExtB (K : PySem.W.Frag) : V → List V → Hp → VK → Prop := fun x vs H Q => match x, vs with
  | .ref l, [.ref b] => ∃ xs zs, H l = some (.lst xs) ∧ ((H b = some (.lst zs)) ∨ H b = some (.tup zs)) ∧ xs.length + zs.length ≤ sizeLine ∧ Q .non (upd H l (.lst (xs ++ zs)))
  | _, _ => False
section
variable {X : Cx}
theorem mt_extendT : MtR X "list.extend" (fun x vs H Q => ∃ l b xs zs, x = .ref l ∧ vs = [.ref b] ∧ H l = some (.lst xs) ∧ H b = some (.tup zs) ∧ xs.length + zs.length ≤ sizeLine ∧ Q .non (upd H l (.lst (xs ++ zs)))) := by
  intro pins s σ H x vs v us Q I rx rv h
  obtain ⟨l, b, xs, zs, rfl, rfl, hH, hB, hz, q⟩ := h
  cases rx
  obtain ⟨u, rfl, ru⟩ := rv.one
  cases ru
  obtain ⟨z, its, n, r, hl, e⟩ := I.lstM hH
  obtain ⟨its2, r2, p2, z2⟩ := I.tuple (SqT.of hB)
  obtain ⟨⟨c2, d2, dt2, sl2⟩, e2, hc2, n2, hdt2⟩ := p2
  simp only at hc2 hdt2
  subst hc2 hdt2
  have hl2 := r2.length
  have hsz : its.toArray.size + its2.toArray.size ≤ sizeLine := by rw [List.size_toArray, List.size_toArray]; omega
  have hlong : ¬ (!its.toArray.isEmpty && Builtin.List.listTooLong (its.toArray.size + its2.toArray.size)) = true := by
    rw [notLongL hsz, Bool.and_false]
    exact Bool.false_ne_true
  refine call_meets F.slot_list_extend ⟨_, e, rfl⟩ F.entry_list_extend (F.args_list_extend_2 _ _)
    (list_extend_tupG l its.toArray n b its2.toArray n2 _ _ hlong (by rw [List.size_toArray]; omega) (by omega)) ⟨e, e2, ?_⟩
  refine ⟨.non, _, I.lset (its' := its ++ its2) hH e (by simp) (r.append r2) ?_, rfl, q⟩
  rw [List.length_append]
  omega
theorem mc_extB {K : PySem.W.Frag} : MtR X "list.extend" (rExtB K) := MtR.weak (MtR.or (r := rExtend) mt_extend mt_extendT) fun x vs H Q h => by
  unfold rExtB at h
  split at h
  · obtain ⟨xs, zs, h1, h2 | h2, h3, q⟩ := h
    · exact .inl ⟨_, _, xs, zs, rfl, rfl, h1, h2, h3, q⟩
    · exact .inr ⟨_, _, xs, zs, rfl, rfl, h1, h2, h3, q⟩
  · exact h.elim
/-! ### dict(d), dict(pairs) -/
theorem cc_dict {K : PySem.W.Frag} (hc : X.calm = true) (hK : X.K = K := by rfl) : CallR X (.type "dict") (fun xs H Q => (∃ (a : Addr) (kvs : List (Key × V)), xs = [.ref a] ∧ Rd H a (.dK kvs) ∧ ∀ p, H p = none → Q (.ref p) (upd H p (.dK kvs))) ∨
    ∃ (a : Addr) (ps : List Addr) (kvs : List (Key × V)), xs = [.ref a] ∧ SqL K H a (ps.map V.ref) ∧ Paired (fun p kv => SqT K H p [kV kv.1, kv.2]) ps kvs ∧ ∀ p, H p = none → Q (.ref p) (upd H p (.dK (mergeK [] kvs)))) := hK ▸ call_dictD.or (call_dictP hc)
end
/-! ### == of dicts whose values are flat, or lists or tuples of flat ones -/
inductive VEq (K : PySem.W.Frag) (H : Hp) : V → V → Bool → Prop
  | flat {x y : V} : flatV x = true → flatV y = true → VEq K H x y (eqV x y)
  | seq {p q : Addr} {xs ys : List V} : SqP K H p q xs ys → xs.all flatV = true → ys.all flatV = true → (p = q → eqVs xs ys = true) → VEq K H (.ref p) (.ref q) (eqVs xs ys)
inductive HitsD (K : PySem.W.Frag) (H : Hp) (ls : List (Key × V)) : List (Key × V) → Bool → Prop
  | nil : HitsD K H ls [] true
  | miss {k : Key} {v : V} {r : List (Key × V)} : valV ls k = none → HitsD K H ls ((k, v) :: r) false
  | hit {k : Key} {v y : V} {r : List (Key × V)} {e b : Bool} : valV ls k = some y → VEq K H v y e → HitsD K H ls r b → HitsD K H ls ((k, v) :: r) (e && b)
def rDD (ne : Bool) (K : PySem.W.Frag) : R2 := fun x y H Q => ∃ a b ks ls r, x = .ref a ∧ y = .ref b ∧ H a = some (.dK ks) ∧ H b = some (.dK ls) ∧ (ks.length = ls.length → HitsD K H ls ks r) ∧ Q (.bl (ne != (ks.length == ls.length && r))) H
section
variable {X : Cx}
theorem vEq_ok {pins : List (Addr × Obj)} {σ : St} {H : Hp} {s : Shared} {A : Around} (I : Inv X pins σ H s) (hu : A.units < cLine) {v y : V} {e : Bool} (h : VEq X.K H v y e) {u u' : Value} (ru : RelV v u) (ry : RelV y u') : SeqAt.EqAt A s u u' e := by
  cases h with
  | flat f1 f2 => exact eqAt_V ru ry f1 f2
  | @seq p q xs ys hs f1 f2 hr =>
    cases ru
    cases ry
    by_cases hpq : p = q
    · subst hpq
      rw [hr rfl]
      exact SeqAt.EqAt.same _
    · refine SeqAt.EqAt.of_refs hpq ?_
      rcases hs with ⟨h1, h2⟩ | ⟨h1, h2⟩
      · obtain ⟨its, r1, p1, z1⟩ := I.list h1
        obtain ⟨its2, r2, p2, z2⟩ := I.list h2
        by_cases hl : xs.length = ys.length
        · have hsz : its.toArray.size = its2.toArray.size := by rw [List.size_toArray, List.size_toArray, ← r1.length, ← r2.length, hl]
          have := SeqAt.RcAt.lists p1.isList p2.isList hsz hu (fun j a b => flatq_at (A := A.in1) r1 r2 f1 f2 j a b)
          rw [eqVs_all _ _ hl, r1.length, ← List.size_toArray]; exact this
        · have := SeqAt.RcAt.lists_lengths (A := A) p1.isList p2.isList (by simp only [List.size_toArray, ← r1.length, ← r2.length]; simpa using hl) hu
          rw [eqVs_ne hl]; exact this
      · obtain ⟨its, r1, p1, z1⟩ := I.tuple h1
        obtain ⟨its2, r2, p2, z2⟩ := I.tuple h2
        have := SeqAt.RcAt.tuples (A := A) (show s.heap.IsTuple p its.toArray from p1) (show s.heap.IsTuple q its2.toArray from p2) hu (fun j a b => flatq_at (A := A.in1) r1 r2 f1 f2 j a b)
        by_cases hl : xs.length = ys.length
        · have hsz : its.toArray.size = its2.toArray.size := by rw [List.size_toArray, List.size_toArray, ← r1.length, ← r2.length, hl]
          rw [min_all hsz] at this
          rw [eqVs_all _ _ hl, r1.length, ← List.size_toArray]; exact this
        · rw [eqVs_ne hl]
          have e : (its.toArray.size == its2.toArray.size) = false := by simp only [List.size_toArray, ← r1.length, ← r2.length]; simpa using hl
          rw [e, Bool.and_false] at this
          exact this
theorem hits_of {pins : List (Addr × Obj)} {σ : St} {H : Hp} {s : Shared} {A : Around} (I : Inv X pins σ H s) (hu : A.units + 64 < cLine) {ls : List (Key × V)} {vb : List (Key × Value)} (rb : KV ls vb) {ks : List (Key × V)} {r : Bool} (h : HitsD X.K H ls ks r) :
    ∀ {va : List (Key × Value)}, KV ks va → PySem.W.KeqHitsP X.prog X.w A s vb va r := by
  have look : ∀ k : Key, (valV ls k = none → valueAt vb k = none) ∧ ∀ y, valV ls k = some y → ∃ u, valueAt vb k = some u ∧ RelV y u := fun k => by
    have rr : RelO (valV ls k) (valueAt vb k) := rb.val k
    refine ⟨fun e => ?_, fun y e => ?_⟩
    · rw [e] at rr
      cases hv : valueAt vb k with
      | none => rfl
      | some u => rw [hv] at rr; exact rr.elim
    · rw [e] at rr
      exact rr.some_of
  induction h with
  | nil => intro va ra; cases ra; exact .nil
  | @miss k v r hm =>
    intro va ra
    cases ra with
    | @cons p q ps qs h t =>
      obtain ⟨k', u⟩ := q
      obtain ⟨h1, h2⟩ := h
      cases h1
      exact .miss ((look k).1 hm)
  | @hit k v y r e b hy he _ ih =>
    intro va ra
    cases ra with
    | @cons p q ps qs h t =>
      obtain ⟨k', u⟩ := q
      obtain ⟨h1, h2⟩ := h
      cases h1
      obtain ⟨u', e1, e2⟩ := (look k).2 y hy
      exact .hit e1 (SeqAt.EqAt.eqP (vEq_ok I (by omega) he h2 e2)) (ih t)
theorem op_eqDD (hu : X.A.units + 80 < cLine) : OpR X (compareOp .Eq) (rDD false X.K) := by
  intro pins s σ H x y v u Q I rx ry h
  obtain ⟨a, b, ks, ls, r, rfl, rfl, ea, eb, hits, q⟩ := h
  obtain rfl : v = Value.ref a := rx
  obtain rfl : u = Value.ref b := ry
  obtain ⟨_, ya, va, ra, da⟩ := (show ObjOk X.prog X.w H s.heap a (.dK ks) from I.hok a _ ea)
  obtain ⟨_, yb, vb, rb, db⟩ := (show ObjOk X.prog X.w H s.heap b (.dK ls) from I.hok b _ eb)
  show wpAny (model X.prog X.w) X.A (richCompare .Eq _ _) _ _ _
  have l1 : va.length = ks.length := by rw [← Paired.length ra]
  have l2 : vb.length = ls.length := by rw [← Paired.length rb]
  refine PySem.W.rcP_dicts (knd := mixKind X.prog X.w) (r := r) ya yb da db (by omega) (fun e => hits_of I (by show X.A.units + 1 + 64 < cLine; omega) rb (hits (by omega)) ra) _ _ ?_
  exact ⟨.bl (ks.length == ls.length && r), H, I, by rw [l1, l2]; rfl, by rw [bne_f] at q; exact q⟩
end
section
variable {X : Cx} {K : PySem.W.Frag}
theorem op_eqDDK (hu : X.A.units + 80 < cLine) (hK : X.K = K := by rfl) : OpR X (compareOp .Eq) (rDD false K) := hK ▸ op_eqDD hu
theorem Room.u80 {k : Nat} {A : Around} (r : Room k A) : A.units + 80 < cLine := by have := r.un; omega
theorem pe_revLK {e : Expr} {te : TE} {k : Nat} {p1 p2 p3 pos : Pos} (he : PE X e te) (hK : X.K = K := by rfl) : PE X (.Subscript e (.Slice none none (some (.UnaryOp .USub (.Constant (.int 1) k p1) p2)) p3) pos) (tRevL K te) := hK ▸ pe_revL he
end
/-! ### {**d, k: v} -/
def tDMrg (td tk tv : TE) : TE := fun σ H Q => ∀ p, H p = none → td σ (upd H p (.dK [])) fun x H1 => ∃ a kvs, x = .ref a ∧ a ≠ p ∧ Rd H1 a (.dK kvs) ∧ H1 p = some (.dK []) ∧ kvs.length < sizeLine ∧
  ∀ q, upd H1 p (.dK kvs) q = none → tk σ (upd (upd H1 p (.dK kvs)) q (.dK [])) fun y H2 => tv σ H2 fun z H3 => ∃ k, y = kV k ∧ H3 q = some (.dK []) ∧ H3 p = some (.dK kvs) ∧ Q (.ref p) (upd (upd H3 q (.dK [(k, z)])) p (.dK (putK kvs k z)))
section
variable {X : Cx} {d k v : Expr} {td tk tv : TE} {pos : Pos}
theorem fl_mix {P : Program} {w : World} : ∀ k v, (mixKind P w).is k v = true → ∀ a, v ≠ .ref a := by
  rintro k v h a rfl
  cases k <;> exact absurd h Bool.false_ne_true
theorem pe_dmrg (hd : PE X d td) (hk : PE X k tk) (hv : PE X v tv) : PE X (.Dict [none, some k] [d, v] pos) (tDMrg td tk tv) := by
  refine ⟨fun pins s σ H Q I q => ?_⟩
  rw [arm_eval_Dict]
  refine wpAny_bind (wpAny_standAt ?_)
  show wpAny _ _ (dictDisplay [(none, (do let x ← eval d X.env; standAt pos; pure x)), (some (eval k X.env), (do let x ← eval v X.env; standAt pos; pure x))]) _ _ s
  unfold dictDisplay
  simp only [List.forIn_cons, List.forIn_nil]
  refine wpAny_bind (wpAny_bind (wpAny_bind ?_))
  rw [if_pos (show ([] : List (Sem Value × Sem Value)).isEmpty = true from rfl)]
  refine wpAny_pure ?_
  refine wpAny_bind (wpAny_alloc ?_)
  have hn := I.hok.fresh (Nat.le_refl s.heap.objs.size)
  have I1 := I.laid (a := s.heap.objs.size) (o := .dK []) (h' := s.heap.push { cls := .type "dict", data := .dict #[] }) (t' := s.toks) (fun _ _ q => Heap.get?_push_of_some _ q) (Nat.le_refl _) (dk_empty s.heap I.big)
  generalize hp : s.heap.objs.size = p at *
  refine wpAny_bind (wpAny_holding ?_)
  refine wpAny_bind (thn (hd.run pins _ σ _ _ I1 (q _ hn)) fun u s1 ⟨x, H1, I2, rx, a, kvs, ex, hap, ha, hp1, hz, q1⟩ => wpAny_bind (wpAny_standAt (wpAny_pure ?_)))
  subst ex
  obtain rfl : u = Value.ref a := rx
  obtain ⟨z0, hdS, vs0, r0, dd0⟩ := dk_of I2.hok hp1
  cases r0
  obtain ⟨z1, haS, vs, kv, dd⟩ := dk_rd I2.hok ha
  have lk : kvs.length = vs.length := Paired.length kv
  have ndv : (vs.map (·.1)).Nodup := let ⟨_, _, _, _, _, _, _, _, hn⟩ := dd; hn
  have flat : ∀ k v, (mixKind X.prog X.w).is k v = true → ∀ a, v ≠ .ref a := fl_mix
  refine wpAny_bind (wpAny_onRaise (wpAny_tryCatch (wpAny_onRaise (wpAny_holding (wpAny_mergeMapping (knd := mixKind X.prog X.w) hap.symm haS flat dd0 dd (hsz := by rw [List.length_nil]; omega) fun h' hd' hs => ?_)))))
  rw [merged_nil_of_nodup vs ndv] at hd'
  have he : ∃ q, h'.get? p = some q := let ⟨q, _, _, hq, _⟩ := hd'; ⟨q, hq⟩
  have I3 := d_write (ob := .dK kvs) (t' := s1.toks) I2 (a := p) (by rw [hp1]; exact True.intro) hs he (dk_new z1 hdS kv hd')
  refine wpAny_pure ?_
  refine wpAny_bind ?_
  show wpAny _ _ (if ((1 : Nat) == 17) = true then _ else _) _ _ _
  rw [if_neg (show ¬ (((1 : Nat) == 17) = true) by decide)]
  refine wpAny_pure (wpAny_pure ?_)
  refine wpAny_bind ?_
  show wpAny _ _ (if (false : Bool) = true then _ else _) _ _ _
  rw [if_neg Bool.false_ne_true]
  show wpAny _ _ ((holding [Value.ref p] (subDict [(eval k X.env, do let x ← eval v X.env; standAt pos; pure x)])) >>= _) _ _ _
  have hn2 := I3.hok.fresh (Nat.le_refl _)
  have I4 := I3.laid (a := h'.objs.size) (o := .dK []) (h' := h'.push { cls := .type "dict", data := .dict #[] }) (t' := s1.toks) (fun _ _ q => Heap.get?_push_of_some _ q) (Nat.le_refl _) (dk_empty h' I3.big)
  have pr : PPs X pos [some k] [v] [(tk, tv)] := pps_cons hk hv pps_nil
  have qq : tPairs [(tk, tv)] σ (upd (upd H1 p (.dK kvs)) h'.objs.size (.dK [])) (fun ps H3 => match ps with
      | [(y, z)] => ∃ k, y = kV k ∧ H3 h'.objs.size = some (.dK []) ∧ H3 p = some (.dK kvs) ∧ Q (.ref p) (upd (upd H3 h'.objs.size (.dK [(k, z)])) p (.dK (putK kvs k z)))
      | _ => False) := q1 _ hn2
  refine wpAny_bind (wpAny_holding (wpAny_subDict (knd := mixKind X.prog X.w) (pairs := pairTrees [some k] [v] X.env pos) (by show 1 ≤ 15; decide) (thn (pr.run pins _ σ _ _ I4 qq) fun ws s3 h3 => ?_)))
  obtain ⟨ps, H3, I5, rel, q3⟩ := h3
  split at q3
  · rename_i y z
    obtain ⟨ky, rfl, g1, g2, q4⟩ := q3
    obtain ⟨rs, cr, rk⟩ := carries_of (P := X.prog) (w := X.w) (kvs := [(ky, z)]) rel
    obtain ⟨z5, hd5, vs5, r5, dd5⟩ := dk_of I5.hok g1
    cases r5
    refine ⟨rs, cr, dd5, fun h6 hd6 hs6 => ?_⟩
    obtain ⟨pr1, rfl⟩ : ∃ b, rs = [(ky, b)] := by
      cases rk with
      | cons h t =>
        cases t
        rename_i q
        obtain ⟨q1, q2⟩ := q
        exact ⟨q2, by have := h.1; simp only at this; subst this; rfl⟩
    have he6 : ∃ q, h6.get? h'.objs.size = some q := let ⟨q, _, _, hq, _⟩ := hd6; ⟨q, hq⟩
    have I6 := d_write (ob := .dK [(ky, z)]) (t' := s3.toks + ws.length) I5 (a := h'.objs.size) (by rw [g1]; exact True.intro) hs6 he6 (dk_new (by show 1 ≤ sizeLine; decide) hd5 rk hd6)
    have npq : p ≠ h'.objs.size := fun e => by rw [← e, upd_same] at hn2; cases hn2
    have g2' : upd H3 h'.objs.size (.dK [(ky, z)]) p = some (.dK kvs) := by rw [upd_ne npq]; exact g2
    obtain ⟨z7, hd7, vs7, r7, dd7⟩ := dk_of I6.hok g2'
    have l7 : kvs.length = vs7.length := Paired.length r7
    refine wpAny_bind (wpAny_onRaise (wpAny_holding (wpAny_mergeMapping (knd := mixKind X.prog X.w) npq hd5 flat dd7 hd6 (hsz := by show vs7.length + 1 ≤ sizeLine; omega) fun h8 hd8 hs8 => wpAny_pure (wpAny_pure ?_))))
    have he8 : ∃ q, h8.get? p = some q := let ⟨q, _, _, hq, _⟩ := hd8; ⟨q, hq⟩
    have rr : RelV z pr1 := by
      cases rk with
      | cons h t => exact h.2
    have I8 := d_write (ob := .dK (putK kvs ky z)) (t' := s3.toks + ws.length) I6 (a := p) (by rw [g2']; exact True.intro) hs8 he8 (dk_new (by have := length_putK kvs ky z; omega) hd7 (r7.put ky rr) hd8)
    exact ⟨.ref p, _, I8, rfl, q4⟩
  · exact q3.elim
end
/-! ### things by texts, in the order of a dict -/
section
variable {α : Type}
def getF (fs : List (Str × α)) (p : Str) : Option α := (fs.find? fun f => decide (f.1 = p)).map (·.2)
def putF' (fs : List (Str × α)) (p : Str) (x : α) : List (Str × α) := if (fs.any fun f => decide (f.1 = p)) = true then fs.map (fun f => if f.1 = p then (f.1, x) else f) else fs ++ [(p, x)]
def dropF (fs : List (Str × α)) (p : Str) : List (Str × α) := fs.filter fun f => decide (f.1 ≠ p)
/-- the pairs of a dict tell fs, its values by R -/
def FlR (R : V → α → Prop) (kvs : List (Key × V)) (fs : List (Str × α)) : Prop := Paired (fun kv f => kv.1 = Sum.inr f.1 ∧ R kv.2 f.2) kvs fs
theorem getF_nil {p : Str} : getF ([] : List (Str × α)) p = none := rfl
theorem getF_pos {f : Str × α} {r : List (Str × α)} {p : Str} (e : f.1 = p) : getF (f :: r) p = some f.2 := by simp [getF, List.find?_cons, e]
theorem getF_neg {f : Str × α} {r : List (Str × α)} {p : Str} (e : ¬ f.1 = p) : getF (f :: r) p = getF r p := by simp [getF, List.find?_cons, e]
theorem getF_isSome {p : Str} : ∀ {fs : List (Str × α)}, (getF fs p).isSome = decide (p ∈ fs.map Prod.fst)
  | [] => rfl
  | f :: r => by
    by_cases e : f.1 = p
    · rw [getF_pos e, decide_eq_true (by rw [List.map_cons, e]; exact List.mem_cons_self)]; rfl
    · rw [getF_neg e, getF_isSome]
      by_cases h : p ∈ r.map Prod.fst
      · rw [decide_eq_true h, decide_eq_true (by rw [List.map_cons]; exact List.mem_cons_of_mem _ h)]
      · rw [decide_eq_false h, decide_eq_false]
        intro z
        rw [List.map_cons] at z
        rcases List.mem_cons.mp z with z | z
        · exact e z.symm
        · exact h z
theorem getF_none {p : Str} {fs : List (Str × α)} : getF fs p = none ↔ p ∉ fs.map Prod.fst := by
  have h := getF_isSome (p := p) (fs := fs)
  cases e : getF fs p with
  | none => rw [e] at h; exact Iff.intro (fun _ => of_decide_eq_false h.symm) (fun _ => rfl)
  | some x => rw [e] at h; exact Iff.intro (fun z => nomatch z) (fun z => absurd (of_decide_eq_true h.symm) z)
theorem getF_mem {p : Str} {x : α} : ∀ {fs : List (Str × α)}, getF fs p = some x → (p, x) ∈ fs
  | [], h => nomatch h
  | f :: r, h => by
    by_cases e : f.1 = p
    · rw [getF_pos e] at h
      cases h
      subst e
      exact List.mem_cons_self
    · rw [getF_neg e] at h
      exact List.mem_cons_of_mem _ (getF_mem h)
theorem getF_of_mem {p : Str} {x : α} : ∀ {fs : List (Str × α)}, (fs.map Prod.fst).Nodup → (p, x) ∈ fs → getF fs p = some x
  | [], _, h => nomatch h
  | f :: r, nd, h => by
    rw [List.map_cons, List.nodup_cons] at nd
    rcases List.mem_cons.mp h with h | h
    · subst h; exact getF_pos rfl
    · have e : ¬ f.1 = p := fun e => nd.1 (e ▸ List.mem_map_of_mem (f := Prod.fst) h)
      rw [getF_neg e]
      exact getF_of_mem nd.2 h
theorem anyF {p : Str} {fs : List (Str × α)} : (fs.any fun f => decide (f.1 = p)) = (getF fs p).isSome := by
  induction fs with
  | nil => rfl
  | cons f r ih =>
    rw [List.any_cons]
    by_cases e : f.1 = p
    · rw [getF_pos e, decide_eq_true e]; rfl
    · rw [getF_neg e, decide_eq_false e, Bool.false_or, ih]
theorem getF_map {p q : Str} {x : α} : ∀ {fs : List (Str × α)}, getF (fs.map fun f => if f.1 = p then (f.1, x) else f) q = (getF fs q).map fun y => if q = p then x else y
  | [] => rfl
  | f :: r => by
    rw [List.map_cons]
    have k : (if f.1 = p then (f.1, x) else f).1 = f.1 := by split <;> rfl
    by_cases e : f.1 = q
    · rw [getF_pos (k.trans e), getF_pos e]
      by_cases h : f.1 = p
      · rw [if_pos h]; simp [← e, h]
      · rw [if_neg h]; simp [← e, h]
    · rw [getF_neg (by rw [k]; exact e), getF_neg e, getF_map]
theorem getF_app {p : Str} {gs : List (Str × α)} : ∀ {fs : List (Str × α)}, getF (fs ++ gs) p = (getF fs p).or (getF gs p)
  | [] => rfl
  | f :: r => by
    rw [List.cons_append]
    by_cases e : f.1 = p
    · rw [getF_pos e, getF_pos e]; rfl
    · rw [getF_neg e, getF_neg e, getF_app]
theorem getF_put {fs : List (Str × α)} {p q : Str} {x : α} : getF (putF' fs p x) q = if q = p then some x else getF fs q := by
  unfold putF'
  rw [anyF]
  cases e : getF fs p with
  | none =>
    rw [if_neg (show ¬ ((none : Option α).isSome = true) from Bool.false_ne_true), getF_app]
    by_cases h : q = p
    · subst h; rw [if_pos rfl, e, getF_pos rfl]; rfl
    · rw [if_neg h, getF_neg (fun z => h z.symm), getF_nil, Option.or_none]
  | some y =>
    rw [if_pos (show (some y).isSome = true from rfl), getF_map]
    by_cases h : q = p
    · subst h; rw [if_pos rfl, e]; simp
    · rw [if_neg h]; cases getF fs q <;> simp [h]
theorem getF_drop {fs : List (Str × α)} {p q : Str} : getF (dropF fs p) q = if q = p then none else getF fs q := by
  induction fs with
  | nil => unfold dropF; rw [List.filter_nil]; split <;> rfl
  | cons f r ih =>
    unfold dropF at ih ⊢
    by_cases e : f.1 = p
    · rw [List.filter_cons_of_neg (by simp [e]), ih]
      by_cases h : q = p
      · rw [if_pos h, if_pos h]
      · rw [if_neg h, if_neg h, getF_neg (fun z : f.1 = q => h (z.symm.trans e))]
    · rw [List.filter_cons_of_pos (by simp [e])]
      by_cases h : f.1 = q
      · rw [getF_pos h, getF_pos h, if_neg (fun z => e (h.trans z))]
      · rw [getF_neg h, getF_neg h, ih]
theorem keys_put {fs : List (Str × α)} {p : Str} {x : α} : (putF' fs p x).map Prod.fst = if p ∈ fs.map Prod.fst then fs.map Prod.fst else fs.map Prod.fst ++ [p] := by
  unfold putF'
  rw [anyF, getF_isSome]
  by_cases h : p ∈ fs.map Prod.fst
  · rw [decide_eq_true h, if_pos rfl, if_pos h, List.map_map]
    refine List.map_congr_left fun f _ => ?_
    show (if f.1 = p then (f.1, x) else f).1 = f.1
    split <;> rfl
  · rw [decide_eq_false h, if_neg (by decide), if_neg h, List.map_append]; rfl
theorem nodup_put {fs : List (Str × α)} {p : Str} {x : α} (h : (fs.map Prod.fst).Nodup) : ((putF' fs p x).map Prod.fst).Nodup := by
  rw [keys_put]
  split
  · exact h
  · rename_i n; exact nodup_snoc h n
theorem keys_drop {fs : List (Str × α)} {p : Str} : (dropF fs p).map Prod.fst = (fs.map Prod.fst).filter fun q => decide (q ≠ p) := by
  unfold dropF
  rw [List.filter_map]; rfl
theorem nodup_drop {fs : List (Str × α)} {p : Str} (h : (fs.map Prod.fst).Nodup) : ((dropF fs p).map Prod.fst).Nodup := by
  rw [keys_drop]
  exact h.sublist List.filter_sublist
theorem length_put {fs : List (Str × α)} {p : Str} {x : α} : (putF' fs p x).length ≤ fs.length + 1 := by
  unfold putF'
  split
  · rw [List.length_map]; omega
  · rw [List.length_append]; exact Nat.le_refl _
theorem length_drop {fs : List (Str × α)} {p : Str} : (dropF fs p).length ≤ fs.length := List.length_filter_le ..
theorem mem_put {fs : List (Str × α)} {p : Str} {x : α} {f : Str × α} (h : f ∈ putF' fs p x) : f = (p, x) ∨ f ∈ fs := by
  unfold putF' at h
  split at h
  · obtain ⟨g, hg, e⟩ := List.mem_map.mp h
    by_cases z : g.1 = p
    · rw [if_pos z, z] at e; exact .inl e.symm
    · rw [if_neg z] at e; exact .inr (e ▸ hg)
  · rcases List.mem_append.mp h with h | h
    · exact .inr h
    · exact .inl (List.mem_singleton.mp h)
variable {R R' : V → α → Prop} {kvs : List (Key × V)} {fs : List (Str × α)}
theorem FlR.mono (h : FlR R kvs fs) (m : ∀ v a, R v a → R' v a) : FlR R' kvs fs := prd_mono (fun _ _ q => ⟨q.1, m _ _ q.2⟩) h
theorem FlR.len (h : FlR R kvs fs) : kvs.length = fs.length := Paired.length h
theorem FlR.get (h : FlR R kvs fs) (p : Str) : match getF fs p with | some x => ∃ v, valV kvs (Sum.inr p) = some v ∧ R v x | none => valV kvs (Sum.inr p) = none := by
  unfold FlR at h
  induction h with
  | nil => exact rfl
  | @cons kv f _ _ r t ih =>
    obtain ⟨r1, r2⟩ := r
    by_cases e : f.1 = p
    · rw [getF_pos e]
      exact ⟨_, valV_pos (by rw [r1, e]), r2⟩
    · rw [getF_neg e, valV_neg (fun z => e (by rw [r1] at z; exact Sum.inr.inj z))]
      exact ih
theorem FlR.of_some (h : FlR R kvs fs) {p : Str} {x : α} (e : getF fs p = some x) : ∃ v, valV kvs (Sum.inr p) = some v ∧ R v x := by
  have := h.get p
  rw [e] at this; exact this
theorem FlR.of_none (h : FlR R kvs fs) {p : Str} (e : getF fs p = none) : valV kvs (Sum.inr p) = none := by
  have := h.get p
  rw [e] at this; exact this
theorem FlR.isSome (h : FlR R kvs fs) {p : Str} : (valV kvs (Sum.inr p)).isSome = decide (p ∈ fs.map Prod.fst) := by
  rw [← getF_isSome]
  have := h.get p
  cases e : getF fs p with
  | none => rw [e] at this; rw [show valV kvs (Sum.inr p) = none from this]; rfl
  | some x => rw [e] at this; obtain ⟨v, h1, _⟩ := this; rw [h1]; rfl
theorem FlR.any (h : FlR R kvs fs) {p : Str} : (kvs.any fun kv => decide (kv.1 = Sum.inr p)) = fs.any fun f => decide (f.1 = p) := by
  rw [valV_any, h.isSome, anyF, getF_isSome]
theorem FlR.put (h : FlR R kvs fs) {p : Str} {v : V} {x : α} (hv : R v x) : FlR R (putK kvs (Sum.inr p) v) (putF' fs p x) := by
  unfold putK putF'
  rw [h.any]
  split
  · rename_i hc
    clear hc
    unfold FlR at h ⊢
    induction h with
    | nil => exact .nil
    | @cons kv f _ _ r t ih =>
      obtain ⟨r1, r2⟩ := r
      rw [List.map_cons, List.map_cons]
      refine .cons ?_ ih
      by_cases e : f.1 = p
      · rw [if_pos e, if_pos (by rw [r1, e])]; exact ⟨r1, hv⟩
      · rw [if_neg e, if_neg (fun z => e (by rw [r1] at z; exact Sum.inr.inj z))]; exact ⟨r1, r2⟩
  · exact prd_app h (.cons ⟨rfl, hv⟩ .nil)
theorem FlR.at (h : FlR R kvs fs) {i : Nat} {k : Key} {v : V} (e : kvs[i]? = some (k, v)) : ∃ p x, fs[i]? = some (p, x) ∧ k = Sum.inr p ∧ R v x := by
  obtain ⟨⟨p, x⟩, h1, h2, h3⟩ := prd_get h e
  exact ⟨p, x, h1, h2, h3⟩
theorem FlR.merge : ∀ {fs : List (Str × α)} {kvs : List (Key × V)} {gs : List (Str × α)} {kws : List (Key × V)}, FlR R kvs fs → FlR R kws gs → FlR R (mergeK kws kvs) (fs.foldl (fun g f => putF' g f.1 f.2) gs) := by
  intro fs kvs gs kws h
  unfold FlR at h
  induction h generalizing gs kws with
  | nil => intro g; exact g
  | @cons kv f _ _ r t ih =>
    intro g
    obtain ⟨r1, r2⟩ := r
    obtain ⟨k, v⟩ := kv
    cases r1
    exact ih (g.put r2)
theorem put_fresh {fs : List (Str × α)} {p : Str} {x : α} (h : p ∉ fs.map Prod.fst) : putF' fs p x = fs ++ [(p, x)] := by
  unfold putF'
  rw [anyF, getF_isSome, decide_eq_false h, if_neg (by decide)]
theorem fold_fresh : ∀ {fs gs : List (Str × α)}, ((gs ++ fs).map Prod.fst).Nodup → fs.foldl (fun g f => putF' g f.1 f.2) gs = gs ++ fs
  | [], gs, _ => by rw [List.append_nil]; rfl
  | f :: r, gs, h => by
    rw [List.map_append, List.map_cons] at h
    have hn : f.1 ∉ gs.map Prod.fst := fun z => (List.nodup_append.mp h).2.2 _ z _ List.mem_cons_self rfl
    show r.foldl _ (putF' gs f.1 f.2) = _
    rw [put_fresh hn, fold_fresh (by
      rw [List.append_assoc, List.map_append]
      simpa using h), List.append_assoc]
    rfl
/-- dict(pairs), all keys unlike -/
theorem FlR.made (h : FlR R kvs fs) (nd : (fs.map Prod.fst).Nodup) : FlR R (mergeK [] kvs) fs := by
  have := FlR.merge h (gs := []) (kws := []) (.nil)
  rw [fold_fresh (by rw [List.nil_append]; exact nd), List.nil_append] at this
  exact this
end
/-! ### values -/
def RTup (H : Hp) : V → List Str → Prop := fun v ls => ∃ p, v = .ref p ∧ H p = some (.tup (ls.map V.str))
def RLst (H : Hp) : V → List Str → Prop := fun v ls => ∃ p, v = .ref p ∧ H p = some (.lst (ls.map V.str))
theorem RTup.same {H H' : Hp} {v : V} {ls : List Str} (h : RTup H v ls) (e : Same H H') : RTup H' v ls := by obtain ⟨p, h1, h2⟩ := h; exact ⟨p, h1, e _ _ h2⟩
theorem RLst.same {H H' : Hp} {v : V} {ls : List Str} (h : RLst H v ls) (e : Same H H') : RLst H' v ls := by obtain ⟨p, h1, h2⟩ := h; exact ⟨p, h1, e _ _ h2⟩
/-- a dict at d of texts to tuples of texts, to lists -/
def DcT (H : Hp) (d : Addr) (fs : List (Str × List Str)) : Prop := ∃ kvs, H d = some (.dK kvs) ∧ FlR (RTup H) kvs fs
/-- behind a lock -/
theorem SameB.unlock {s d : Addr} {H H' : Hp} {o u : HO} (hd : H d = some u) (e : SameB s (upd H d o) H') : SameB s H (upd H' d u) := fun b v n h => by
  by_cases z : b = d
  · subst z; rw [upd_same]; rw [hd] at h; exact h
  · rw [upd_ne z]; exact e b v n (by rw [upd_ne z]; exact h)
theorem Same.unlock {d : Addr} {H H' : Hp} {o u : HO} (hd : H d = some u) (e : Same (upd H d o) H') : Same H (upd H' d u) := fun b v h => by
  by_cases z : b = d
  · subst z; rw [upd_same]; rw [hd] at h; exact h
  · rw [upd_ne z]; exact e b v (by rw [upd_ne z]; exact h)
end L2

/-! List comprehensions with a test whose turns make objects. -/
namespace L2
open PySem PySem.Spec PyProof.Rows
section
variable {J : It} {α : Type} {xs : List α} {G : Hp → Prop} {Y : Nat → Hp → V → Hp → Prop}
theorem filter_snoc {α : Type} {l : List α} {i : Nat} {a : α} {p : α → Bool} (h : l[i]? = some a) : (l.take (i + 1)).filter p = (l.take i).filter p ++ (if p a = true then [a] else []) := by
  rw [take_snoc h, List.filter_append]
  congr 1
  by_cases hp : p a = true <;> simp [hp]
/-- a comprehension whose turns make objects; keep tells which are kept, R what is told of one; it stays true where the new list alone is written -/
theorem lc_fl {n : Nat} (w : Walk J n G Y) {g : TG} {tt : TT} {te : TE} {vs : List Nat} {σ : St} {H1 : Hp} {D : Addr} {Qd : Hp → Prop} (keep : α → Bool) (R : V → α → Hp → Prop) (hN : n = xs.length)
    (hR : ∀ y a H H' acc, H D = some (.lst acc) → SameB D H H' → R y a H → R y a H') (hD : H1 D = none) (hn : n ≤ 16000000) (hG : ∀ H, Same H1 H → G H)
    (hs : ∀ i a x H H' (Nx : V → Hp → Prop) (Nz : Hp → Prop), xs[i]? = some a → Same H1 H → Y i H x H' → (keep a = true → ∀ y H4, Same H H4 → R y a H4 → Nx y H4) → (keep a = false → ∀ H4, Same H H4 → Nz H4) →
      g x (wipe σ vs) H' fun σ2 H2 => wipe σ2 vs = wipe σ vs ∧ tt σ2 H2 fun b H3 => if b = true then te σ2 H3 Nx else Nz H3)
    (hd : ∀ H (ys : List V), Paired (fun y a => R y a H) ys (xs.filter keep) → Same H1 H → H D = some (.lst ys) → Qd H) :
    ∃ W : Nat → Nat → Hp → Prop, (∃ m, W 0 m (upd H1 D (.lst []))) ∧ ∀ i m H, W i m H →
      (J.stop i H ∧ Qd H) ∨ (J.go i H ∧ ∃ Nx : Hp → Prop, (∀ H', Nx H' → ∃ m', m' < m ∧ W (i + 1) m' H') ∧ ∀ x H', J.yld i H x H' → g x (wipe σ vs) H' fun σ2 H2 => wipe σ2 vs = wipe σ vs ∧ tt σ2 H2 fun b H3 =>
        if b = true then te σ2 H3 fun y H4 => ∃ acc, H4 D = some (.lst acc) ∧ acc.length < sizeLine ∧ Nx (upd H4 D (.lst (acc ++ [y]))) else Nx H3) := by
  subst hN
  refine lc_it w (fun i H => Same H1 H ∧ ∃ ys : List V, H D = some (.lst ys) ∧ Paired (fun y a => R y a H) ys ((xs.take i).filter keep)) ⟨Same.new hD, [], upd_same, by rw [List.take_zero]; exact .nil⟩ (fun i H _ p => hG H p.1) ?_ ?_
  · rintro i x H H' hi ⟨s1, ys, hD1, r⟩ y
    have ea : xs[i]? = some xs[i] := List.getElem?_eq_getElem hi
    have hl : ys.length ≤ xs.length := by
      have e1 : ys.length = ((xs.take i).filter keep).length := Paired.length r
      have e2 := List.length_filter_le keep (xs.take i)
      rw [List.length_take] at e2; omega
    refine hs i xs[i] x H H' _ _ ea s1 y (fun hk y H4 s4 ry => ⟨ys, s4 _ _ hD1, by rw [sizeLine_eq]; omega, (s1.trans s4).wr hD, ys ++ [y], upd_same, ?_⟩) fun hk H4 s4 => ⟨s1.trans s4, ys, s4 _ _ hD1, ?_⟩
    · rw [filter_snoc ea, if_pos hk]
      refine prd_app (prd_mono (fun y a q => hR y a _ _ _ (s4 _ _ hD1) SameB.at (hR y a _ _ _ hD1 (SameB.of s4) q)) r) (.cons ?_ .nil)
      exact hR _ _ _ _ _ (s4 _ _ hD1) SameB.at ry
    · rw [filter_snoc ea, if_neg (by rw [hk]; exact Bool.false_ne_true), List.append_nil]
      exact prd_mono (fun y a q => hR y a _ _ _ hD1 (SameB.of s4) q) r
  · rintro H ⟨s1, ys, hD1, r⟩
    rw [List.take_length] at r
    exact hd H ys r s1 hD1
end
/-! the items, the keys of a dict that tells fs -/
section
variable {α : Type} {R : V → α → Prop} {kvs : List (Key × V)} {fs : List (Str × α)} {d : Addr} {o : Obj}
theorem walk_itemsF (h : FlR R kvs fs) : Walk (Iti d o kvs) fs.length (fun H => H d = some (.frz o (.dK kvs))) (fun i H v H' => ∃ T p x y, v = .ref T ∧ H T = none ∧ H' = upd H T (.tup [.str p, y]) ∧ fs[i]? = some (p, x) ∧ R y x) := by
  rw [← h.len]
  refine walk_items.mono (fun _ h => h) fun i H x H' hi _ y => ?_
  obtain ⟨T, kx, vx, h1, h2, h3, h4, h5⟩ := y
  have ekv : kvs[i]? = some kvs[i] := List.getElem?_eq_getElem hi
  have h4' : (kvs[i]?).map (fun kv => kV kv.1) = some kx := h4
  have h5' : (kvs[i]?).map Prod.snd = some vx := h5
  rw [ekv] at h4' h5'
  obtain ⟨p, a, e1, e2, e3⟩ := h.at (i := i) (k := kvs[i].1) (v := kvs[i].2) ekv
  cases h4'; cases h5'
  refine ⟨T, p, a, _, h1, h2, ?_, e1, e3⟩
  rw [h3]
  show upd H T (HO.tup [kV kvs[i].1, kvs[i].2]) = _
  rw [e2]; rfl
theorem walk_keysF (h : FlR R kvs fs) : Walk (Itk d o kvs) fs.length (fun H => H d = some (.frz o (.dK kvs))) (fun i H x H' => H' = H ∧ ∃ p a, fs[i]? = some (p, a) ∧ x = .str p) := by
  rw [← h.len]
  refine walk_keys.mono (fun _ h => h) fun i H x H' hi _ y => ?_
  obtain ⟨h1, k, v, h2, h3⟩ := y
  obtain ⟨p, a, e1, e2, e3⟩ := h.at h2
  exact ⟨h1, p, a, e1, by rw [h3, e2]; rfl⟩
theorem walk_valuesF (h : FlR R kvs fs) : Walk (Itd d o kvs) fs.length (fun H => H d = some (.frz o (.dK kvs))) (fun i H x H' => H' = H ∧ ∃ p a, fs[i]? = some (p, a) ∧ R x a) := by
  rw [← h.len]
  refine walk_values.mono (fun _ h => h) fun i H x H' hi _ y => ?_
  obtain ⟨h1, k, h2⟩ := y
  obtain ⟨p, a, e1, e2, e3⟩ := h.at h2
  exact ⟨h1, p, a, e1, e3⟩
end
/-- the addresses of what was made -/
theorem refsP {α : Type} {F : Addr → α → Prop} : ∀ {ys : List V} {xs : List α}, Paired (fun y x => ∃ a, y = .ref a ∧ F a x) ys xs → ∃ as : List Addr, ys = as.map V.ref ∧ Paired F as xs
  | _, _, .nil => ⟨[], rfl, .nil⟩
  | _, _, .cons r t => by
    obtain ⟨a, e, h⟩ := r
    obtain ⟨as, e2, h2⟩ := refsP t
    exact ⟨a :: as, by rw [List.map_cons, ← e2, e], .cons h h2⟩
theorem valsP {α β : Type} {f : β → V} {F : β → α → Prop} : ∀ {ys : List V} {xs : List α}, Paired (fun y x => ∃ a, y = f a ∧ F a x) ys xs → ∃ as : List β, ys = as.map f ∧ Paired F as xs
  | _, _, .nil => ⟨[], rfl, .nil⟩
  | _, _, .cons r t => by
    obtain ⟨a, e, h⟩ := r
    obtain ⟨as, e2, h2⟩ := valsP t
    exact ⟨a :: as, by rw [List.map_cons, ← e2, e], .cons h h2⟩
end L2

/-! zip of two lists or two tuples. -/
namespace L2
open PySem PySem.Spec PyProof.Rows RZ
theorem pi_zipAK {X : Cx} {K : PySem.W.Frag} {e e2 : Expr} {ta : TA} {p pos tpos : Pos} {elts : List Expr} {kk : Nat} (hg : Gl X "zip") (hm : X.mg "zip" = none) (ha : PA X [e, e2] ta) (hK : X.K = K := by rfl)
    (hs : starEach [e, e2] X.env = (false, eval e X.env) :: starEach [e2] X.env := by rfl) (hpl : (backTo pos (starEach [e2] X.env)).any (·.1) = false := by rfl) :
    PI X (.Tuple elts kk tpos) (.Call (.Name "zip" p) [e, e2] [] pos) (iZipA K ta) := hK ▸ pi_zipA hg hm ha hs hpl
theorem walk_zipT {K : PySem.W.Frag} {a b : Addr} {xs ys : List V} {n : Nat} (hn : n = min xs.length ys.length) : Walk (ItzT K a b) n (fun H => SqT K H a xs ∧ SqT K H b ys) (YPair (fun i => xs[i]?) (fun i => ys[i]?)) := by
  subst hn
  refine ⟨fun i _ hi q => ?_, fun _ q => ⟨xs, ys, q.1, q.2, by omega⟩, fun i H v H' _ q y => ?_⟩
  · have h1 : i < xs.length := by omega
    have h2 : i < ys.length := by omega
    exact ⟨xs, ys, xs[i], ys[i], q.1, q.2, by simp [h1], by simp [h2]⟩
  · obtain ⟨T, x, z, h1, h2, h3, h4, h5⟩ := y
    exact ⟨T, x, z, h1, h2, h3, h4 xs q.1, h5 ys q.2⟩
end L2

/-! sets of texts. -/
namespace L2
open PySem PySem.Spec PyProof.Rows
def txK (e : Int × Value) : Str := match e.2 with | .str k _ => k | _ => Str.empty
def TxE (w : World) (e : Int × Value) : Prop := ∃ k tk, e.2 = Value.str k tk ∧ e.1 = hashStr w k
/-- what is kept of a set of texts: rows, keys, a table that rises -/
structure TxTab (w : World) (es : Array (Int × Value)) (t : SetTable) (S : Str → Bool) : Prop where
  good : ∀ e ∈ es.toList, TxE w e
  nd : (es.toList.map txK).Nodup
  mem : ∀ k, S k = true ↔ k ∈ es.toList.map txK
  few : es.size < scanBound
  fits : t.fits es.size = true
  ris : Ris t.place.toList
  led : w.params.followText "set-order" = true ∨ t.led = true
def SetS (w : World) (h : Heap) (a : Addr) (S : Str → Bool) (n : Nat) : Prop :=
  ∃ o es ep t, h.get? a = some o ∧ o.ExactSet ∧ o.data = .set es ep t ∧ TxTab w es t S ∧ es.size = n
section
variable {P : Program} {w : World} {h h' : Heap} {a : Addr} {S : Str → Bool} {n : Nat}
theorem SetS.at (R : SetS w h a S n) (k : ∀ o, h.get? a = some o → h'.get? a = some o) : SetS w h' a S n := by
  obtain ⟨o, es, ep, t, ho, r⟩ := R
  exact ⟨o, es, ep, t, k o ho, r⟩
theorem SetS.congr {S' : Str → Bool} (R : SetS w h a S n) (e : ∀ k, S' k = S k) : SetS w h a S' n := by
  rw [show S' = S from funext e]; exact R
theorem txE_elems {l : List (Int × Value)} (g : ∀ e ∈ l, TxE w e) : ElemsOf (PySem.strKind P w) l := fun e he => by
  obtain ⟨k, tk, h1, h2⟩ := g e he
  exact ⟨⟨k, by rw [h1]; exact strKind_is P w k tk, h2⟩, by rw [h1] <;> rfl⟩
theorem txE_is {e : Int × Value} (g : TxE w e) (k : Str) : (PySem.strKind P w).is k e.2 = true ↔ txK e = k := by
  obtain ⟨k0, tk, h1, _⟩ := g
  unfold txK
  rw [h1]
  constructor
  · intro z
    obtain ⟨t, e⟩ := Value.isStrOf_shape (x := k) (v := Value.str k0 tk) z
    exact (Value.str.inj e).1
  · intro z
    subst z
    exact strKind_is P w k0 tk
theorem txE_mem {l : List (Int × Value)} (g : ∀ e ∈ l, TxE w e) (k : Str) : k ∈ l.map txK ↔ ∃ e ∈ l, (PySem.strKind P w).is k e.2 = true := by
  rw [List.mem_map]
  exact ⟨fun ⟨e, he, q⟩ => ⟨e, he, (txE_is (g e he) k).2 q⟩, fun ⟨e, he, q⟩ => ⟨e, he, (txE_is (g e he) k).1 q⟩⟩
theorem SetS.setOf (R : SetS w h a S n) : h.SetOf (PySem.strKind P w) a S n := by
  obtain ⟨o, es, ep, t, ho, hx, hd, T, hn⟩ := R
  exact ⟨o, es, ep, t, ho, hx, hd, txE_elems T.good, fun k => (T.mem k).trans (txE_mem T.good k), T.few, T.fits, hn⟩
/-- the table laid anew -/
theorem TxTab.relay {es : Array (Int × Value)} {t : SetTable} (T : TxTab w es t S) (z : Nat) : TxTab w (relayAll t es z).1 (relayAll t es z).2.1 S ∧ (relayAll t es z).1.size = es.size := by
  have pm := relayAll_perm t es z
  have hs : (relayAll t es z).1.size = es.size := by rw [← Array.length_toList, pm.length_eq, Array.length_toList]
  exact ⟨⟨fun e he => T.good e (pm.mem_iff.mp he), (pm.map txK).nodup_iff.mpr T.nd, fun k => (T.mem k).trans (pm.map txK).mem_iff.symm, by rw [hs]; exact T.few, relayAll_fits t es z,
    relayAll_ris t es z, T.led.imp id fun y => by rw [relayAll_led]; exact y⟩, hs⟩
/-- one text more -/
theorem TxTab.lay {es : Array (Int × Value)} {t : SetTable} {k : Str} {tk : Tok} (T : TxTab w es t S) (hk : k ∉ es.toList.map txK) (room : es.size + 1 < scanBound) :
    TxTab w (layNew t es (hashStr w k) (.str k tk)).1 (layNew t es (hashStr w k) (.str k tk)).2.1 (fun j => S j || decide (j = k)) ∧ (layNew t es (hashStr w k) (.str k tk)).1.size = es.size + 1 := by
  have pm := layNew_perm t es (hashStr w k) (.str k tk)
  rw [Array.toList_push] at pm
  have pc := pm.trans (List.perm_append_singleton _ _)
  have pk := pc.map txK
  have hs : (layNew t es (hashStr w k) (.str k tk)).1.size = es.size + 1 := by rw [← Array.length_toList, pc.length_eq, List.length_cons, Array.length_toList]
  refine ⟨⟨fun e he => ?_, pk.nodup_iff.mpr (List.nodup_cons.mpr ⟨hk, T.nd⟩), fun i => ?_, by rw [hs]; exact room, layNew_fits t es (hashStr w k) (.str k tk), layNew_ris t es (hashStr w k) (.str k tk) T.ris,
    T.led.imp id fun y => by rw [layNew_led]; exact y⟩, hs⟩
  · rcases List.mem_cons.mp (pc.mem_iff.mp he) with z | z
    · rw [z]; exact ⟨k, tk, rfl, rfl⟩
    · exact T.good e z
  · rw [Bool.or_eq_true, decide_eq_true_eq, T.mem i, pk.mem_iff, List.map_cons, List.mem_cons]
    exact Or.comm
theorem TxTab.plain {es : Array (Int × Value)} {t : SetTable} (T : TxTab w es t S) : TxTab w es { t with plain := false } S :=
  ⟨T.good, T.nd, T.mem, T.few, SetTable.fits_plain_off T.fits, T.ris, T.led⟩
end
section
variable {P : Program} {w : World} {A : Around} {E : Value → Shared → Prop} {s : Shared} {a : Addr} {S : Str → Bool} {n : Nat}
theorem setS_tail {g : Bool → Sem Unit} (hg : ∀ (b : Bool) (s₁ : Shared) (Q' : Unit → Shared → Prop), Q' () s₁ → wpAny (model P w) A (g b) Q' E s₁)
    {o : Obj} {es : Array (Int × Value)} {ep : Nat} {t : SetTable} (ho : s.heap.get? a = some o) (hex : o.ExactSet) (hd : o.data = .set es ep t)
    {es1 : Array (Int × Value)} {t2 : SetTable} {S' : Str → Bool} (T : TxTab w es1 t2 S') {wasDummy : Bool} {R : Option Bool → Shared → Prop}
    (hR : ∀ h', Heap.SameBut a s.heap h' → SetS w h' a S' es1.size → R (some true) { s with heap := h' }) :
    wpAny (model P w) A (do
        storeSet a es1 t2
        if (!wasDummy && t2.tooFull) = true then do
            g (relayAll t2 es1 (SetTable.grown es1.size)).2.2
            storeSet a (relayAll t2 es1 (SetTable.grown es1.size)).1 (relayAll t2 es1 (SetTable.grown es1.size)).2.1
            pure (some true)
          else pure (some true)) R E s := by
  refine wpAny_bind (wpAny_storeSet_of ho hd ?_ (fits_of_scanBound T.few))
  have ho1 := store_at (es' := es1) (t' := t2) ho hd
  have sb1 := Heap.SameBut.update s.heap a (Obj.putSet es1 t2)
  split
  · obtain ⟨T2, hs⟩ := T.relay (SetTable.grown es1.size)
    refine wpAny_bind (hg _ _ _ ?_)
    refine wpAny_bind (wpAny_storeSet_of ho1 rfl ?_ (fits_of_scanBound T2.few))
    have ho2 := store_at (es' := (relayAll t2 es1 (SetTable.grown es1.size)).1) (t' := (relayAll t2 es1 (SetTable.grown es1.size)).2.1) ho1 rfl
    exact wpAny_pure (hR _ (sb1.trans (Heap.SameBut.update _ a _)) ⟨_, _, _, _, ho2, hex, rfl, T2, hs⟩)
  · exact wpAny_pure (hR _ sb1 ⟨_, es1, _, t2, ho1, hex, rfl, T, rfl⟩)
theorem setS_add {k : Str} {tk : Tok} {Q : Bool → Shared → Prop} (R : SetS w s.heap a S n) (room : n + 1 < scanBound)
    (hQ : ∀ h', Heap.SameBut a s.heap h' → SetS w h' a (fun j => S j || decide (j = k)) (if S k = true then n else n + 1) → Q (!S k) { s with heap := h' }) :
    wpAny (model P w) A (setAddHashed a (.str k tk) ((PySem.strKind P w).hash k)) Q E s := by
  obtain ⟨o, es, ep, t, ho, hex, hd, T, hn⟩ := R
  have hkey : (PySem.strKind P w).is k (.str k tk) = true := strKind_is P w k tk
  have hsc : (Value.str k tk).scannable = true := rfl
  have hel : ElemsOf (PySem.strKind P w) es.toList := txE_elems T.good
  unfold setAddHashed setAddHashedIn
  refine wpAny_holding (wpAny_bind (wpAny_setState_of ho hd T.fits ?_))
  dsimp only
  rw [byScan_of hsc T.few hel]
  simp only [↓reduceIte]
  unfold setAddByScan
  refine wpAny_bind ?_
  refine wpAny_bind (wpAny_rule ?_)
  refine wpAny_bind (wpAny_setScan_of hkey ho hd T.fits hel ?_)
  cases hfi : List.findIdx? (fun e => (PySem.strKind P w).is k e.2) es.toList with
  | some j =>
    dsimp only
    obtain ⟨hj, pj, _⟩ := List.findIdx?_eq_some_iff_getElem.mp hfi
    have hSk : S k = true := (T.mem k).2 ((txE_mem (P := P) (w := w) T.good k).2 ⟨es.toList[j], List.getElem_mem hj, pj⟩)
    refine wpAny_pure (wpAny_pure ?_)
    have q := hQ s.heap (Heap.SameBut.refl a s.heap) ⟨o, es, ep, t, ho, hex, hd, ⟨T.good, T.nd, fun i => by
      rw [Bool.or_eq_true, decide_eq_true_eq, ← T.mem i]
      exact ⟨fun z => z.elim id (fun e => e ▸ hSk), .inl⟩, T.few, T.fits, T.ris, T.led⟩, by rw [if_pos hSk]; exact hn⟩
    rw [hSk] at q
    exact q
  | none =>
    dsimp only
    have hnk : k ∉ es.toList.map txK := fun z => by
      obtain ⟨e, he, q⟩ := (txE_mem (P := P) (w := w) T.good k).1 z
      have c := List.findIdx?_eq_none_iff.mp hfi e he
      rw [q] at c
      cases c
    have hSk : S k = false := by
      cases q : S k with
      | false => rfl
      | true => exact absurd ((T.mem k).1 q) hnk
    have hgw : ∀ (b : Bool) {s₁ : Shared} {Q' : Unit → Shared → Prop}, Q' () s₁ → wpAny (model P w) A (match b with | true => rule "set.scan.the-table-gave-way" | false => pure ()) Q' E s₁ :=
      fun b s₁ Q' q => by cases b <;> first | exact wpAny_pure q | exact wpAny_rule q
    obtain ⟨T1, hs1⟩ := T.lay (tk := tk) hnk (by rw [hn]; exact room)
    have e0 : (PySem.strKind P w).hash k = hashStr w k := rfl
    rw [e0]
    generalize layNew t es (hashStr w k) (.str k tk) = Z at T1 hs1 ⊢
    obtain ⟨es1, t1, wasDummy, gave⟩ := Z
    dsimp only at T1 hs1 ⊢
    have fin : ∀ h', Heap.SameBut a s.heap h' → SetS w h' a (fun j => S j || decide (j = k)) es1.size → Q true { s with heap := h' } := fun h' sb r => by
      have q := hQ h' sb
      rw [hSk] at q
      rw [hs1, hn] at r
      exact q r
    refine wpAny_bind (hgw _ ?_)
    split
    · refine wpAny_bind ?_
      rw [hashByValue_scannable 8 hsc]
      refine wpAny_pure ?_
      refine setS_tail ?_ ho hex hd (S' := fun j => S j || decide (j = k)) (by first | exact T1 | (split <;> first | exact T1 | exact T1.plain)) ?_
      · intro b s₁ Q' q; cases b <;> first | exact wpAny_pure q | exact wpAny_rule q
      · intro h' sb r; dsimp only; exact wpAny_pure (fin h' sb r)
    · refine wpAny_bind (wpAny_pure ?_)
      simp only [↓reduceIte]
      refine setS_tail ?_ ho hex hd T1 ?_
      · intro b s₁ Q' q; cases b <;> first | exact wpAny_pure q | exact wpAny_rule q
      · intro h' sb r; dsimp only; exact wpAny_pure (fin h' sb r)
theorem setS_fresh {h : Heap} {a : Addr} {w : World} (ho : h.get? a = some { cls := .type "set", dict := none, data := .set #[] 0 (.fresh 0 0 (!w.params.followText "set-order")) }) : SetS w h a (fun _ => false) 0 :=
  ⟨_, #[], 0, _, ho, ⟨rfl, rfl, rfl⟩, rfl, ⟨(fun e he => by simp at he), (by simp), (fun k => by simp), (by decide), (by rfl), List.Pairwise.nil, by
    show _ ∨ (!w.params.followText "set-order") = true
    cases w.params.followText "set-order"
    · exact .inr rfl
    · exact .inl rfl⟩, rfl⟩
end
def inS (xs : List Str) (k : Str) : Bool := decide (k ∈ xs)
section
variable {P : Program} {w : World} {A : Around} {R : Result → Shared → Prop} {I : Addr} {fp wr : List Addr} {G : Array GenState → Array GenState → Prop} {n : Nat} {Pv : Nat → Value → Prop} {St : Nat → Shared → Prop}
/-- the loop that fills a set -/
theorem fillS (W : WalksS P w A.in1 I fp wr G n Pv St) (S : Addr) (hSf : S ∉ fp) (xs : List Str) (hsz : xs.length = n) (hb : n + 1 < scanBound)
    (hval : ∀ i v, Pv i v → ∃ t, v = .str (xs.getD i Str.empty) t) :
    ∀ (k i : Nat) (s : Shared), n - i = k → i ≤ n → St i s → (∃ m, m ≤ i ∧ SetS w s.heap S (inS (xs.take i)) m) →
      (∀ s' m, Moved (S :: wr) G s s' → m ≤ n → SetS w s'.heap S (inS (xs.take n)) m → R (.ok (.ret .none)) s') →
      codeAny (model P w) A (.builtin "set.update.loop" ⟨[.ref S, .ref I], []⟩) R s := by
  have hSw : S ∉ wr := fun h => hSf (W.sub _ h)
  have hsub : ∀ b ∈ wr, b ∈ S :: wr := fun b hb => List.mem_cons_of_mem _ hb
  intro k
  induction k with
  | zero =>
    intro i s hk hi hst ⟨m, hm0, hS⟩ hR
    obtain rfl : i = n := by omega
    refine codeAny_builtin F.entry_set_update_loop ?_
    rw [Around.under_plainId F.plain_set_update_loop _]
    show wpAny _ A.in1 (pyNext (.ref I) >>= _) _ _ s
    refine wpAny_bind (W.done s _ _ hst fun s' hm => ?_)
    show wpAny _ A.in1 (ret Value.none) _ _ s'
    exact wpAny_pure (hR s' m (hm.mono hsub) hm0 (hS.at fun o e => hm.heap S o hSw e))
  | succ k ih =>
    intro i s hk hi hst ⟨m, hm0, hS⟩ hR
    have hlt : i < n := by omega
    refine codeAny_builtin F.entry_set_update_loop ?_
    rw [Around.under_plainId F.plain_set_update_loop _]
    show wpAny _ A.in1 (pyNext (.ref I) >>= _) _ _ s
    refine wpAny_bind (W.item i s _ _ hlt hst fun v s' hP hst' hm => ?_)
    obtain ⟨t, rfl⟩ := hval i v hP
    have hS' : SetS w s'.heap S (inS (xs.take i)) m := hS.at fun o e => hm.heap S o hSw e
    show wpAny _ A.in1 (holding [Value.str (xs.getD i Str.empty) t] (setAdd S (.str (xs.getD i Str.empty) t)) >>= _) _ _ s'
    refine wpAny_bind (wpAny_holding ?_)
    unfold setAdd
    refine wpAny_holding ?_
    refine wpAny_bind ((PySem.strKind P w).pyHash (k := xs.getD i Str.empty) (strKind_is _ _ _ _) ?_)
    refine setS_add (s := { s' with toks := s'.toks + 1 }) hS' (by omega) fun h' hsb hS2 => ?_
    have hSi : SetS w h' S (inS (xs.take (i + 1))) (if inS (xs.take i) (xs.getD i Str.empty) = true then m else m + 1) := hS2.congr fun j => by
      have hlx : i < xs.length := by omega
      have e1 : xs.getD i Str.empty = xs[i] := by rw [List.getD_eq_getElem?_getD, List.getElem?_eq_getElem hlx] <;> rfl
      rw [e1]
      unfold inS
      rw [List.take_add_one, List.getElem?_eq_getElem hlx]
      show decide (j ∈ xs.take i ++ [xs[i]]) = (decide (j ∈ xs.take i) || decide (j = xs[i]))
      rw [← Bool.decide_or]
      exact decide_eq_decide.mpr (by rw [List.mem_append, List.mem_singleton])
    have hm1 : (if inS (xs.take i) (xs.getD i Str.empty) = true then m else m + 1) ≤ i + 1 := by split <;> omega
    refine wpAny_pure ⟨plainId_quiet F.plain_set_update_loop _, ih (i + 1) _ (by omega) hlt (W.frame _ s' _ _ hst' (Nat.le_succ _) fun b hb o e => ?_) ⟨_, hm1, hSi⟩ fun s'' m'' hm'' hl'' hS'' => ?_⟩
    · rw [hsb.2 b (fun h : b = S => hSf (by rw [← h]; exact hb))]; exact e
    · refine hR s'' m'' (Moved.trans W.gtrans ((hm.mono hsub).then_heap (Nat.le_succ _) fun b o hb e => ?_) hm'') hl'' hS''
      rw [hsb.2 b (fun h : b = S => hb (by rw [h]; exact List.mem_cons_self))]; exact e
end
section
variable {P : Program} {w : World} {A : Around} {E : Value → Shared → Prop} {s : Shared}
set_option maxHeartbeats 6400000 in
theorem call_setS_list {l : Addr} {items : Array Value} {xs : List Str} {Q : Value → Shared → Prop} (hh : A.handled = none) (hl : s.heap.IsList l items) (hi : StrsAre items.toList xs) (hb : xs.length + 1 < scanBound)
    (h : ∀ (h' : Heap) (tk m : Nat), m ≤ xs.length → SetS w h' s.heap.objs.size (inS xs) m → (∀ b o, s.heap.get? b = some o → h'.get? b = some o) → Q (.ref s.heap.objs.size) { s with heap := h', toks := tk }) :
    wpAny (model P w) A (call (.type "set") [.ref l]) Q E s := by
  obtain ⟨c, tl, hmro⟩ := F.called_set.mro
  have hmade := F.called_set.made
  have hsub := F.called_set.sub
  have hsz : xs.length = items.size := by rw [← StrsAre.len_eq hi, Array.length_toList]
  refine wpAny_call (codeAny_of_tree ?_)
  show wpAny _ _ (callAny (.type "set") _) _ _ _
  refine wpAny_pure ⟨Code.quiet_builtin _ (by decide +kernel), codeAny_builtin F.entry_type_call ?_⟩
  rw [Around.under_plain (weight_type_call_type "set" [.ref l] []) rfl]
  have h1 := F.called_set.notType
  have h2 := F.called_set.canCreate
  have hct := F.typeCall_set_1 (.ref l)
  repeat (any_goals (first | assumption | wp_step))
  refine codeAny_mono (code_set_led1 (.ref l) (E := E) (Q₁ := fun obj s₁ => obj = .ref s.heap.objs.size ∧ s₁ = { s with heap := s.heap.push { cls := .type "set", dict := none, data := .set #[] 0 (.fresh 0 0 (!w.params.followText "set-order")) } }) ⟨rfl, rfl⟩) fun r s₁ hr => ?_
  cases r with
  | error e => exact hr
  | ok fl =>
    cases fl with
    | ret obj =>
      obtain ⟨rfl, rfl⟩ := hr
      have hS : (s.heap.push { cls := .type "set", dict := none, data := .set #[] 0 (.fresh 0 0 (!w.params.followText "set-order")) }).get? s.heap.objs.size = some { cls := .type "set", dict := none, data := .set #[] 0 (.fresh 0 0 (!w.params.followText "set-order")) } := Heap.get?_push_size _ rfl
      have hT : Shared.TypeIs { s with heap := s.heap.push { cls := .type "set", dict := none, data := .set #[] 0 (.fresh 0 0 (!w.params.followText "set-order")) } } (.ref s.heap.objs.size) "set" := ⟨_, hS, rfl⟩
      have hli := F.called_set.init.lookup
      have hbi := F.called_set.init.bind (.ref s.heap.objs.size)
      repeat (any_goals (first | assumption | wp_step))
      refine codeAny_mono (codeAny_call_builtin (R := wants (fun r s₂ => r = .none ∧ ∃ h' tk m, s₂ = { s with heap := h', toks := tk } ∧ m ≤ xs.length ∧ SetS w h' s.heap.objs.size (inS xs) m ∧
          (∀ b o, s.heap.get? b = some o → h'.get? b = some o)) E) F.called_set.init.plain F.entry_set_init (check_set_init_1 hT ?_)) fun r₂ s₂ hr₂ => ?_
      · obtain ⟨ol, hol, hcl, nl, hdl⟩ := hl
        obtain ⟨ocls, odict, odata, oslots⟩ := ol
        simp only at hcl hdl
        subst hcl; subst hdl
        have hol' : (s.heap.push { cls := .type "set", dict := none, data := .set #[] 0 (.fresh 0 0 (!w.params.followText "set-order")) }).get? l = some { cls := .type "list", dict := odict, data := .seq items nl, slots := oslots } := Heap.get?_push_of_some _ hol
        have hsls := F.sub_list_set
        have hslf := F.sub_list_frozenset
        have hne : (Value.type "list" == Value.type "dict") = false := by decide
        have hl1 : (s.heap.push { cls := .type "set", dict := none, data := .set #[] 0 (.fresh 0 0 (!w.params.followText "set-order")) }).IsList l items := ⟨_, hol', rfl, nl, rfl⟩
        unfold Builtin.«set.__init__» noKeywords Builtin.Frozenset.updateFrom
        generalize hPI : pyIter = PI
        wp_walk
        subst hPI
        refine wpAny_pyIter_list hl1 ?_
        refine wpAny_bind (wpAny_runValue ?_)
        have hlS : l < s.heap.objs.size := Heap.lt_size hol
        have hh3 : A.in1.in1.in1.handled = none := by simp [hh]
        have hneI : l ≠ (s.heap.push { cls := .type "set", dict := none, data := .set #[] 0 (.fresh 0 0 (!w.params.followText "set-order")) }).objs.size := by
          rw [Heap.size_push]; exact Nat.ne_of_lt (Nat.lt_succ_of_lt hlS)
        have hSf : s.heap.objs.size ∉ [(s.heap.push { cls := .type "set", dict := none, data := .set #[] 0 (.fresh 0 0 (!w.params.followText "set-order")) }).objs.size, l] := by
          rw [Heap.size_push]; simp only [List.mem_cons, List.mem_singleton, List.not_mem_nil, or_false, not_or]
          exact ⟨Nat.ne_of_lt (Nat.lt_succ_self _), Nat.ne_of_gt hlS⟩
        have hval : ∀ (i : Nat) (v : Value), items[i]? = some v → ∃ t, v = .str (xs.getD i Str.empty) t := fun i v hv => SS.strs_at hi i v (by rw [Array.getElem?_toList]; exact hv)
        refine fillS ((Walks.list hh3 _ l hneI items).toS) s.heap.objs.size hSf xs hsz (by rw [← hsz]; exact hb) hval (items.size - 0) 0 _ (by omega) (Nat.zero_le _)
          ⟨⟨_, Heap.get?_push_size _ rfl, rfl, rfl⟩, (hl1.push _)⟩ ⟨0, Nat.le_refl _, (setS_fresh (Heap.get?_push_of_some _ hS)).congr fun k => ?_⟩ ?_
        · show decide (k ∈ []) = false
          simp
        · intro s' m hm hl' hS'
          obtain ⟨h', g2, d', tk', os'⟩ := s'
          have eg : g2 = s.gens := hm.gens
          have ed : d' = s.drawn := hm.drawn
          have eo : os' = s.os := hm.os
          subst eg; subst ed; subst eo
          show wpAny _ _ _ _ _ _
          refine wpAny_pure ?_
          show wpAny _ _ (ret Value.none) _ _ _
          rw [← hsz, List.take_length] at hS'
          refine wpAny_pure ⟨rfl, h', tk', m, rfl, by rw [hsz]; exact hl', hS', fun b o e => ?_⟩
          have hbl : b < s.heap.objs.size := Heap.lt_size e
          have hb1 : b ≠ s.heap.objs.size := Nat.ne_of_lt hbl
          have hb2 : b ≠ (s.heap.push { cls := .type "set", dict := none, data := .set #[] 0 (.fresh 0 0 (!w.params.followText "set-order")) }).objs.size := by
            rw [Heap.size_push]; exact Nat.ne_of_lt (Nat.lt_succ_of_lt hbl)
          exact hm.heap b o (by simp only [List.mem_cons, List.mem_singleton, List.not_mem_nil, or_false, not_or]; exact ⟨hb1, hb2⟩) (Heap.get?_push_of_some _ (Heap.get?_push_of_some _ e))
      · cases r₂ with
        | error e => exact hr₂
        | ok fl₂ =>
          cases fl₂ with
          | ret r =>
            obtain ⟨rfl, h', tk, m, rfl, hl', hS', hk'⟩ := hr₂
            repeat (any_goals (first | assumption | wp_step))
            exact h _ _ m hl' hS' hk'
          | _ => exact hr₂.elim
    | _ => exact hr.elim
set_option maxHeartbeats 6400000 in
theorem call_setS_tuple {l : Addr} {items : Array Value} {xs : List Str} {Q : Value → Shared → Prop} (hh : A.handled = none) (hl : s.heap.IsTuple l items) (hi : StrsAre items.toList xs) (hb : xs.length + 1 < scanBound)
    (h : ∀ (h' : Heap) (tk m : Nat), m ≤ xs.length → SetS w h' s.heap.objs.size (inS xs) m → (∀ b o, s.heap.get? b = some o → h'.get? b = some o) → Q (.ref s.heap.objs.size) { s with heap := h', toks := tk }) :
    wpAny (model P w) A (call (.type "set") [.ref l]) Q E s := by
  obtain ⟨c, tl, hmro⟩ := F.called_set.mro
  have hmade := F.called_set.made
  have hsub := F.called_set.sub
  have hsz : xs.length = items.size := by rw [← StrsAre.len_eq hi, Array.length_toList]
  refine wpAny_call (codeAny_of_tree ?_)
  show wpAny _ _ (callAny (.type "set") _) _ _ _
  refine wpAny_pure ⟨Code.quiet_builtin _ (by decide +kernel), codeAny_builtin F.entry_type_call ?_⟩
  rw [Around.under_plain (weight_type_call_type "set" [.ref l] []) rfl]
  have h1 := F.called_set.notType
  have h2 := F.called_set.canCreate
  have hct := F.typeCall_set_1 (.ref l)
  repeat (any_goals (first | assumption | wp_step))
  refine codeAny_mono (code_set_led1 (.ref l) (E := E) (Q₁ := fun obj s₁ => obj = .ref s.heap.objs.size ∧ s₁ = { s with heap := s.heap.push { cls := .type "set", dict := none, data := .set #[] 0 (.fresh 0 0 (!w.params.followText "set-order")) } }) ⟨rfl, rfl⟩) fun r s₁ hr => ?_
  cases r with
  | error e => exact hr
  | ok fl =>
    cases fl with
    | ret obj =>
      obtain ⟨rfl, rfl⟩ := hr
      have hS : (s.heap.push { cls := .type "set", dict := none, data := .set #[] 0 (.fresh 0 0 (!w.params.followText "set-order")) }).get? s.heap.objs.size = some { cls := .type "set", dict := none, data := .set #[] 0 (.fresh 0 0 (!w.params.followText "set-order")) } := Heap.get?_push_size _ rfl
      have hT : Shared.TypeIs { s with heap := s.heap.push { cls := .type "set", dict := none, data := .set #[] 0 (.fresh 0 0 (!w.params.followText "set-order")) } } (.ref s.heap.objs.size) "set" := ⟨_, hS, rfl⟩
      have hli := F.called_set.init.lookup
      have hbi := F.called_set.init.bind (.ref s.heap.objs.size)
      repeat (any_goals (first | assumption | wp_step))
      refine codeAny_mono (codeAny_call_builtin (R := wants (fun r s₂ => r = .none ∧ ∃ h' tk m, s₂ = { s with heap := h', toks := tk } ∧ m ≤ xs.length ∧ SetS w h' s.heap.objs.size (inS xs) m ∧
          (∀ b o, s.heap.get? b = some o → h'.get? b = some o)) E) F.called_set.init.plain F.entry_set_init (check_set_init_1 hT ?_)) fun r₂ s₂ hr₂ => ?_
      · obtain ⟨ol, hol, hcl, nl, hdl⟩ := hl
        obtain ⟨ocls, odict, odata, oslots⟩ := ol
        simp only at hcl hdl
        subst hcl; subst hdl
        have hol' : (s.heap.push { cls := .type "set", dict := none, data := .set #[] 0 (.fresh 0 0 (!w.params.followText "set-order")) }).get? l = some { cls := .type "tuple", dict := odict, data := .seq items nl, slots := oslots } := Heap.get?_push_of_some _ hol
        have hsls := F.sub_tuple_set
        have hslf := F.sub_tuple_frozenset
        have hne : (Value.type "tuple" == Value.type "dict") = false := by decide
        have hl1 : (s.heap.push { cls := .type "set", dict := none, data := .set #[] 0 (.fresh 0 0 (!w.params.followText "set-order")) }).IsTuple l items := ⟨_, hol', rfl, nl, rfl⟩
        unfold Builtin.«set.__init__» noKeywords Builtin.Frozenset.updateFrom
        generalize hPI : pyIter = PI
        wp_walk
        subst hPI
        refine wpAny_pyIter_tuple hl1 ?_
        refine wpAny_bind (wpAny_runValue ?_)
        have hlS : l < s.heap.objs.size := Heap.lt_size hol
        have hh3 : A.in1.in1.in1.handled = none := by simp [hh]
        have hneI : l ≠ (s.heap.push { cls := .type "set", dict := none, data := .set #[] 0 (.fresh 0 0 (!w.params.followText "set-order")) }).objs.size := by
          rw [Heap.size_push]; exact Nat.ne_of_lt (Nat.lt_succ_of_lt hlS)
        have hSf : s.heap.objs.size ∉ [(s.heap.push { cls := .type "set", dict := none, data := .set #[] 0 (.fresh 0 0 (!w.params.followText "set-order")) }).objs.size, l] := by
          rw [Heap.size_push]; simp only [List.mem_cons, List.mem_singleton, List.not_mem_nil, or_false, not_or]
          exact ⟨Nat.ne_of_lt (Nat.lt_succ_self _), Nat.ne_of_gt hlS⟩
        have hval : ∀ (i : Nat) (v : Value), items[i]? = some v → ∃ t, v = .str (xs.getD i Str.empty) t := fun i v hv => SS.strs_at hi i v (by rw [Array.getElem?_toList]; exact hv)
        refine fillS ((Walks.tuple hh3 _ l hneI items).toS) s.heap.objs.size hSf xs hsz (by rw [← hsz]; exact hb) hval (items.size - 0) 0 _ (by omega) (Nat.zero_le _)
          ⟨⟨_, Heap.get?_push_size _ rfl, rfl, rfl⟩, (hl1.push _)⟩ ⟨0, Nat.le_refl _, (setS_fresh (Heap.get?_push_of_some _ hS)).congr fun k => ?_⟩ ?_
        · show decide (k ∈ []) = false
          simp
        · intro s' m hm hl' hS'
          obtain ⟨h', g2, d', tk', os'⟩ := s'
          have eg : g2 = s.gens := hm.gens
          have ed : d' = s.drawn := hm.drawn
          have eo : os' = s.os := hm.os
          subst eg; subst ed; subst eo
          show wpAny _ _ _ _ _ _
          refine wpAny_pure ?_
          show wpAny _ _ (ret Value.none) _ _ _
          rw [← hsz, List.take_length] at hS'
          refine wpAny_pure ⟨rfl, h', tk', m, rfl, by rw [hsz]; exact hl', hS', fun b o e => ?_⟩
          have hbl : b < s.heap.objs.size := Heap.lt_size e
          have hb1 : b ≠ s.heap.objs.size := Nat.ne_of_lt hbl
          have hb2 : b ≠ (s.heap.push { cls := .type "set", dict := none, data := .set #[] 0 (.fresh 0 0 (!w.params.followText "set-order")) }).objs.size := by
            rw [Heap.size_push]; exact Nat.ne_of_lt (Nat.lt_succ_of_lt hbl)
          exact hm.heap b o (by simp only [List.mem_cons, List.mem_singleton, List.not_mem_nil, or_false, not_or]; exact ⟨hb1, hb2⟩) (Heap.get?_push_of_some _ (Heap.get?_push_of_some _ e))
      · cases r₂ with
        | error e => exact hr₂
        | ok fl₂ =>
          cases fl₂ with
          | ret r =>
            obtain ⟨rfl, h', tk, m, rfl, hl', hS', hk'⟩ := hr₂
            repeat (any_goals (first | assumption | wp_step))
            exact h _ _ m hl' hS' hk'
          | _ => exact hr₂.elim
    | _ => exact hr.elim
/-- sorted(set) -/
theorem sorted_setS {a : Addr} {S : Str → Bool} {n : Nat} {Q : Value → Shared → Prop} (R : SetS w s.heap a S n) (hh : A.handled = none) (h64 : n < 64)
    (hQ : ∀ s' p (out : Array Value) (c : Nat) (ys : List Str), (∀ b o, s.heap.get? b = some o → s'.heap.get? b = some o) → s'.gens = s.gens → s'.os = s.os → s.heap.objs.size ≤ p →
      s'.heap.get? p = some (seqObj "list" out c) → StrsAre out.toList ys → sortedS ys = true → ys.Nodup → (∀ k, k ∈ ys ↔ S k = true) → ys.length = n → Q (.ref p) s') :
    wpAny (model P w) A (call (.builtin "sorted") [.ref a]) Q E s := by
  obtain ⟨o, es, ep, t, ho, hex, hd, T, hn⟩ := R
  refine Calls.call_function_entry kind_sorted plain_sorted entry_sorted (args_sorted1 _) ?_
  unfold Builtin.«sorted»
  refine wpAny_bind (m := checkCount "sorted" 1 1 _) (wpAny_pure ?_)
  refine wpAny_bind (collect_set (A := A.in1) hh ⟨o, ho, hex.1, hd⟩ T.fits T.few T.ris T.led fun s1 vs k1 hz g1 o1 pm => ?_)
  have hvl : vs.length = n := by rw [pm.length_eq, List.length_map, Array.length_toList]; exact hn
  have all : ∀ l : List Value, (∀ v ∈ l, ∃ k tk, v = Value.str k tk) → ∃ xs : List Str, StrsAre l xs ∧ xs = l.map fun v => txK (0, v) := by
    intro l
    induction l with
    | nil => exact fun _ => ⟨[], .nil, rfl⟩
    | cons v l ih =>
      intro h
      obtain ⟨k, tk, rfl⟩ := h v List.mem_cons_self
      obtain ⟨xs, h1, h2⟩ := ih fun u hu => h u (List.mem_cons_of_mem _ hu)
      exact ⟨k :: xs, .cons k tk h1, by rw [List.map_cons, ← h2]; rfl⟩
  obtain ⟨xs, hS, hxs⟩ := all vs fun v hv => by
    obtain ⟨e, he, q⟩ := List.mem_map.mp (pm.mem_iff.mp hv)
    obtain ⟨k, tk, h1, _⟩ := T.good e he
    exact ⟨k, tk, by rw [← q]; exact h1⟩
  have pk : xs.Perm (es.toList.map txK) := by
    rw [hxs]
    have q := pm.map fun v => txK (0, v)
    rw [List.map_map] at q
    exact q
  refine wpAny_bind (wpAny_newList ?_ (by rw [hvl, sizeLine_eq]; omega))
  have hoL : (s1.heap.push (seqObj "list" vs.toArray 0)).get? s1.heap.objs.size = some (seqObj "list" vs.toArray 0) := Heap.get?_push_size _ rfl
  refine wpAny_bind (wpAny_holding (wpAny_call_entry slot_list_sort ⟨_, hoL, rfl⟩ entry_list_sort
    (list_sort_treeK strKind_oneLt (s := { s1 with heap := s1.heap.push (seqObj "list" vs.toArray 0) }) hoL hS.keysOf (fun v₁ v₂ rest e => keyKind_strs (by rw [← e]; exact hS)) (by rw [hvl]; exact h64) fun st' hp hs => ⟨_, rfl, ?_⟩) (args_list_sort _)))
  obtain ⟨ys, q1, q2, q3⟩ := sorted_out_str hS hp hs
  obtain ⟨c, hc⟩ := sortedHeap_at (vs := vs) (out := (arrOf st').map (·.2)) hoL
  have pn : ys.Perm (es.toList.map txK) := q2.trans pk
  refine wpAny_pure ⟨_, rfl, hQ _ s1.heap.objs.size ((arrOf st').map (·.2)) c ys (fun b u e => ?_) g1 o1 hz hc q1 q3 (pn.nodup_iff.mpr T.nd) (fun k => by rw [pn.mem_iff, ← T.mem k]) ?_⟩
  · have q := k1 b u e
    have hlt := Heap.lt_size q
    rw [sortedHeap_old (Nat.ne_of_lt hlt) (by rw [size_push']; exact Nat.lt_succ_of_lt hlt)]
    exact Heap.get?_push_of_some _ q
  · rw [pn.length_eq, List.length_map, Array.length_toList]; exact hn
end
/-- the set of texts at a -/
def SetSO (w : World) (a : Addr) (S : Str → Bool) (n : Nat) : HO := .ext fun h => SetS w h a S n
section
variable {X : Cx}
theorem setSO_new {w : World} {P : Program} {H : Hp} {h : Heap} {a : Addr} {S : Str → Bool} {n : Nat} (R : SetS w h a S n) : ObjOk P w H h a (SetSO w a S n) := by
  obtain ⟨o, es, ep, t, ho, r⟩ := id R
  exact ⟨R, ⟨o, ho⟩, fun h1 h2 z k => SetS.at z k⟩
theorem setSO_get {pins : List (Addr × Obj)} {σ : St} {H : Hp} {s : Shared} {a : Addr} {S : Str → Bool} {n : Nat} (I : Inv X pins σ H s) (ha : H a = some (SetSO X.w a S n)) : SetS X.w s.heap a S n := (I.hok a _ ha).1
/-- set(xs) of a list or tuple of texts -/
def rSetS (K : PySem.W.Frag) (w : World) : List V → Hp → VK → Prop := fun vs H Q => ∃ (l : Addr) (xs : List Str), vs = [.ref l] ∧ (SqL K H l (xs.map V.str) ∨ SqT K H l (xs.map V.str)) ∧ xs.length + 1 < scanBound ∧
  ∀ p m, H p = none → m ≤ xs.length → Q (.ref p) (upd H p (SetSO w p (inS xs) m))
theorem cr_setS (hc : X.calm = true) : CallR X (.type "set") (rSetS X.K X.w) := by
  intro pins s σ H vs us Q I r h
  obtain ⟨l, xs, rfl, hq, hb, q⟩ := h
  rw [Vals.ref1 r]
  have fin : ∀ (h' : Heap) (tk m : Nat), m ≤ xs.length → SetS X.w h' s.heap.objs.size (inS xs) m → (∀ b o, s.heap.get? b = some o → h'.get? b = some o) → EP X pins σ Q (.ref s.heap.objs.size) { s with heap := h', toks := tk } := fun h' tk m hm hS hk =>
    ⟨.ref s.heap.objs.size, upd H s.heap.objs.size (SetSO X.w s.heap.objs.size (inS xs) m), I.laid (t' := tk) hk (Nat.le_refl _) (setSO_new hS), rfl, q _ m (I.hok.fresh (Nat.le_refl _)) hm⟩
  rcases hq with hq | hq
  · obtain ⟨its, r, pl, hz⟩ := I.list hq
    exact call_setS_list (I.ok.hd hc) pl.isList (by simpa using strsAre_of r) hb fin
  · obtain ⟨its, r, pl, hz⟩ := I.tuple hq
    exact call_setS_tuple (I.ok.hd hc) pl (by simpa using strsAre_of r) hb fin
/-- sorted(set) of fewer than 64 texts -/
def rSortedSS (w : World) : List V → Hp → VK → Prop := fun vs H Q => ∃ (a : Addr) (S : Str → Bool) (n : Nat), vs = [V.ref a] ∧ H a = some (SetSO w a S n) ∧ n < 64 ∧
  ∀ (ys : List Str) (p : Addr), sortedS ys = true → ys.Nodup → (∀ k, k ∈ ys ↔ S k = true) → ys.length = n → H p = none → Q (.ref p) (upd H p (.lst (ys.map V.str)))
theorem cr_sortedSS (hc : X.calm = true) : CallR X (.builtin "sorted") (rSortedSS X.w) := by
  intro pins s σ H vs us Q I r h
  obtain ⟨a, S, n, rfl, ha, h64, q⟩ := h
  rw [Vals.ref1 r]
  refine sorted_setS (setSO_get I ha) (I.ok.hd hc) h64 fun s' p out c ys k g o hp hg hi hs hnd hm hl => ?_
  have hlen : (ys.map V.str).length ≤ sizeLine := by rw [List.length_map, hl, sizeLine_eq]; omega
  have hn : H p = none := I.hok.fresh hp
  have J : Inv X pins σ (upd H p (.lst (ys.map V.str))) { s with heap := s'.heap, gens := s'.gens, drawn := s'.drawn, toks := s'.toks } :=
    I.call (ch := []) (Un.laid k hp hn) (I.hok.laid k hp ⟨hlen, out.toList, c, vals_of_strs hi, hg⟩) (by rw [g]; exact I.bare) (fun _ z => nomatch z)
  have e : s' = { s with heap := s'.heap, gens := s'.gens, drawn := s'.drawn, toks := s'.toks } := by
    cases s'
    cases s
    cases o
    rfl
  rw [e]
  exact ⟨.ref p, _, J, rfl, q ys p hs hnd hm hl hn⟩
end
end L2

/-! cls(*y) -/
namespace L2
open PySem PySem.Spec PyProof.Rows
def tStar1 (K : PySem.W.Frag) (te : TE) : TA := fun σ H Q => te σ H fun y H1 => ∃ a xs, y = .ref a ∧ (SqT K H1 a xs ∨ SqL K H1 a xs) ∧ Q xs H1
section
variable {X : Cx} {CX : CXT} {k i : Nat} {f C : Addr} {sp : Sp} {E : St → XK} {x : Str} {e : Expr} {te : TE} {p sp_ pos : Pos}
/-- cls(*y), cls a local name that holds C -/
theorem pe_mkL1 (M : Mk X.K C f) (F : FnR X.prog X.w X.K X.mg X.base CX k f sp) (hr : Room (k + 1) X.A) (i : Nat) (hN : X.N[i]? = some x) (hv : Vis X.env.scope x) (hx : ∀ σ, PassesAt CX X σ (E σ)) (he : PE X e te) (hdb : (x == ("__debug__" : Str)) = false := by decide)
    (hcd : (x == ("__classdict__" : Str)) = false := by decide)
    (hst : starEach [.Starred e sp_] X.env = [(true, eval e X.env)] := by rfl) : PE X (.Call (.Name x p) [.Starred e sp_] [] pos) (tMkL i C sp E (tStar1 X.K te)) := by
  refine ⟨fun pins s σ H Q I h => ?_⟩
  obtain ⟨hs, ht⟩ := h
  refine wpAny_Call_Name_kw (thn ((pe_var (pos := p) hN hv hdb hcd).run pins s σ H (fun v H1 => v = .ref C ∧ H1 = H) I ⟨.ref C, hs, rfl, rfl⟩) fun u s1 ⟨v, H1, I1, r1, q1⟩ => ?_)
  obtain ⟨rfl, rfl⟩ := q1
  cases r1
  refine PySem.W.callWith_S (h₀ := X.base) I.ok.mod.kin M.kp (thn (he.run pins s1 σ _ _ I1 ht) fun v s2 ⟨y, H2, I2, ry, a, xs, ey, hxs, q⟩ => ?_) hst
  subst ey
  obtain rfl : v = Value.ref a := ry
  exact StX.star_any I2 hxs fun us s3 I3 rv => ⟨I3.kIn, run_mkRS M F hr (hx σ) I3 rv q⟩
end
end L2

/-! sets of texts: readings that compute. -/
namespace L2
open PySem PySem.Spec PyProof.Rows
section
variable {X : Cx}
/-- set(xs) of a list or tuple of texts; ks: its members -/
def rSetTC (K : PySem.W.Frag) (w : World) : List V → Hp → VK → Prop := fun vs H Q => match vs with
  | [.ref l] => ∃ xs : List Str, (SqL K H l (xs.map V.str) ∨ SqT K H l (xs.map V.str)) ∧ xs.length + 1 < scanBound ∧ ∀ p (ks : List Str), H p = none → ks.Nodup → (∀ k, k ∈ ks ↔ k ∈ xs) → ks.length ≤ xs.length → Q (.ref p) (upd H p (SetSO w p (inS xs) ks.length))
  | _ => False
theorem cc_setS {K : PySem.W.Frag} (hc : X.calm = true := by rfl) (hK : X.K = K := by rfl) : CallR X (.type "set") (rSetTC K X.w) := by
  subst hK
  intro pins s σ H vs us Q I r h
  unfold rSetTC at h
  split at h
  · obtain ⟨xs, hq, hb, q⟩ := h
    rw [Vals.ref1 r]
    have fin : ∀ (h' : Heap) (tk m : Nat), m ≤ xs.length → SetS X.w h' s.heap.objs.size (inS xs) m → (∀ b o, s.heap.get? b = some o → h'.get? b = some o) → EP X pins σ Q (.ref s.heap.objs.size) { s with heap := h', toks := tk } := fun h' tk m hm hS hk => by
      have hS0 := hS
      obtain ⟨o, es, ep, t, ho, hex, hd, T, hn⟩ := hS
      have hl : (es.toList.map txK).length = m := by rw [List.length_map, Array.length_toList]; exact hn
      have q2 := q s.heap.objs.size (es.toList.map txK) (I.hok.fresh (Nat.le_refl _)) T.nd (fun k => (T.mem k).symm.trans decide_eq_true_iff) (by omega)
      rw [hl] at q2
      exact ⟨.ref s.heap.objs.size, upd H s.heap.objs.size (SetSO X.w s.heap.objs.size (inS xs) m), I.laid (t' := tk) hk (Nat.le_refl _) (setSO_new hS0), rfl, q2⟩
    rcases hq with hq | hq
    · obtain ⟨its, r, pl, hz⟩ := I.list hq
      exact call_setS_list (I.ok.hd hc) pl.isList (by simpa using strsAre_of r) hb fin
    · obtain ⟨its, r, pl, hz⟩ := I.tuple hq
      exact call_setS_tuple (I.ok.hd hc) pl (by simpa using strsAre_of r) hb fin
  · exact h.elim
def rSortedSC (w : World) : List V → Hp → VK → Prop := fun vs H Q => match vs with
  | [.ref a] => ∃ (S : Str → Bool) (n : Nat), H a = some (SetSO w a S n) ∧ n < 64 ∧ ∀ (ys : List Str) (p : Addr), sortedS ys = true → ys.Nodup → (∀ k, k ∈ ys ↔ S k = true) → ys.length = n → H p = none → Q (.ref p) (upd H p (.lst (ys.map V.str)))
  | _ => False
theorem cc_sortedSS (hc : X.calm = true := by rfl) : CallR X (.builtin "sorted") (rSortedSC X.w) := (cr_sortedSS hc).weak fun xs H Q h => by
  unfold rSortedSC at h
  split at h
  · obtain ⟨S, n, h⟩ := h
    exact ⟨_, S, n, rfl, h⟩
  · exact h.elim
def rSortedLC (K : PySem.W.Frag) : List V → Hp → VK → Prop := fun vs H Q => match vs with
  | [.ref a] => ∃ xs : List Str, SqL K H a (xs.map V.str) ∧ xs.length < 64 ∧ ∀ (ys : List Str) (p : Addr), ys.Perm xs → sortedS ys = true → H p = none → Q (.ref p) (upd H p (.lst (ys.map V.str)))
  | _ => False
theorem cc_sortedL {K : PySem.W.Frag} (hK : X.K = K := by rfl) : CallR X (.builtin "sorted") (rSortedLC K) := hK ▸ cr_sortedS.weak fun xs H Q h => by
  unfold rSortedLC at h
  split at h
  · obtain ⟨xs, h⟩ := h
    exact ⟨_, xs, rfl, h⟩
  · exact h.elim
end
end L2

namespace Toy
open PySem L2
def topS (i : Nat) : Stmt := PySem.Challenge.pw_sourcequeue_k46_whole_affected.main.body.getD i (.Pass ⟨0, 0, 0, 0⟩)
abbrev s_BadArchive_XinitX : Stmt := inClass (topS 3) 0
abbrev N_BadArchive_XinitX : List Str := ["self", "name"]
theorem sc_BadArchive_XinitX : FnScope N_BadArchive_XinitX ["self", "name"] (defScope s_BadArchive_XinitX) := ⟨rfl, rfl, rfl, by decide +kernel, rfl, by decide +kernel, by decide +kernel⟩
abbrev s_is_word : Stmt := topS 7
abbrev N_is_word : List Str := ["text", "most", "letter"]
theorem sc_is_word : FnScope N_is_word ["text", "most"] (defScope s_is_word) := ⟨rfl, rfl, rfl, by decide +kernel, rfl, by decide +kernel, by decide +kernel⟩
abbrev s_is_name : Stmt := topS 8
abbrev N_is_name : List Str := ["text"]
theorem sc_is_name : FnScope N_is_name ["text"] (defScope s_is_name) := ⟨rfl, rfl, rfl, by decide +kernel, rfl, by decide +kernel, by decide +kernel⟩
abbrev s_Package_XinitX : Stmt := inClass (topS 10) 0
abbrev N_Package_XinitX : List Str := ["self", "name", "needs", "staged"]
theorem sc_Package_XinitX : FnScope N_Package_XinitX ["self", "name", "needs", "staged"] (defScope s_Package_XinitX) := ⟨rfl, rfl, rfl, by decide +kernel, rfl, by decide +kernel, by decide +kernel⟩
abbrev s_Archive_XinitX : Stmt := inClass (topS 11) 0
abbrev N_Archive_XinitX : List Str := ["self", "packages", "every", "package", "strange", "name", "wrong"]
theorem sc_Archive_XinitX : FnScope N_Archive_XinitX ["self", "packages"] (defScope s_Archive_XinitX) := ⟨rfl, rfl, rfl, by decide +kernel, rfl, by decide +kernel, by decide +kernel⟩
abbrev s_Archive_of : Stmt := inClass (topS 11) 1
abbrev N_Archive_of : List Str := ["cls", "packages"]
theorem sc_Archive_of : FnScope N_Archive_of ["cls", "packages"] (defScope s_Archive_of) := ⟨rfl, rfl, rfl, by decide +kernel, rfl, by decide +kernel, by decide +kernel⟩
abbrev s_Archive_package : Stmt := inClass (topS 11) 3
abbrev N_Archive_package : List Str := ["self", "name"]
theorem sc_Archive_package : FnScope N_Archive_package ["self", "name"] (defScope s_Archive_package) := ⟨rfl, rfl, rfl, by decide +kernel, rfl, by decide +kernel, by decide +kernel⟩
abbrev s_Archive_check_names : Stmt := inClass (topS 11) 4
abbrev N_Archive_check_names : List Str := ["self", "names", "name"]
theorem sc_Archive_check_names : FnScope N_Archive_check_names ["self", "names"] (defScope s_Archive_check_names) := ⟨rfl, rfl, rfl, by decide +kernel, rfl, by decide +kernel, by decide +kernel⟩
abbrev s_Archive_affected : Stmt := inClass (topS 11) 5
abbrev N_Archive_affected : List Str := ["self", "names", "found", "grown", "name", "need"]
theorem sc_Archive_affected : FnScope N_Archive_affected ["self", "names"] (defScope s_Archive_affected) := ⟨rfl, rfl, rfl, by decide +kernel, rfl, by decide +kernel, by decide +kernel⟩
abbrev s_law_source : Stmt := topS 13
abbrev N_law_source : List Str := ["_law_script", "_law_index", "_law_cell"]
theorem sc_law_source : FnScope N_law_source ["_law_script", "_law_index"] (defScope s_law_source) := ⟨rfl, rfl, rfl, by decide +kernel, rfl, by decide +kernel, by decide +kernel⟩
abbrev s_law_draw : Stmt := topS 14
abbrev N_law_draw : List Str := ["_law_source_here", "_law_bound", "_law_digit", "_law_mixed"]
theorem sc_law_draw : FnScope N_law_draw ["_law_source_here", "_law_bound"] (defScope s_law_draw) := ⟨rfl, rfl, rfl, by decide +kernel, rfl, by decide +kernel, by decide +kernel⟩
abbrev s_law_shuffled : Stmt := topS 15
abbrev N_law_shuffled : List Str := ["_law_source_here", "_law_things", "_law_left", "_law_step"]
theorem sc_law_shuffled : FnScope N_law_shuffled ["_law_source_here", "_law_things"] (defScope s_law_shuffled) := ⟨rfl, rfl, rfl, by decide +kernel, rfl, by decide +kernel, by decide +kernel⟩
abbrev s_law_drawn_packages : Stmt := topS 16
abbrev N_law_drawn_packages : List Str := ["_law_source_here", "_law_many", "_law_staged", "_law_names", "_law_found", "_law_name", "_law_needs", "_law_other", "_law_part", "_law_need"]
theorem sc_law_drawn_packages : FnScope N_law_drawn_packages ["_law_source_here", "_law_many", "_law_staged"] (defScope s_law_drawn_packages) := ⟨rfl, rfl, rfl, by decide +kernel, rfl, by decide +kernel, by decide +kernel⟩
abbrev s_law_made_archive : Stmt := topS 17
abbrev N_law_made_archive : List Str := ["_law_rows", "_law_name", "_law_needs", "_law_part"]
theorem sc_law_made_archive : FnScope N_law_made_archive ["_law_rows"] (defScope s_law_made_archive) := ⟨rfl, rfl, rfl, by decide +kernel, rfl, by decide +kernel, by decide +kernel⟩
abbrev s_law : Stmt := topS 18
abbrev N_law : List Str := ["_law_script", "_law_index", "_law_source_here", "_law_rows", "_law_archive", "_law_every", "_law_row", "_law_needs", "_law_turn", "_law_names", "_law_told", "_law_union", "_law_name", "_law_hit", "_law_need", "_law_more", "_law_rounds", "_law_reached", "_law_hits"]
theorem sc_law : FnScope N_law ["_law_script"] (defScope s_law) := ⟨rfl, rfl, rfl, by decide +kernel, rfl, by decide +kernel, by decide +kernel⟩
structure Ad where
  c_SourceError : Addr
  c_BadName : Addr
  c_BadArchive : Addr
  c_Package : Addr
  c_Archive : Addr
  a_BadArchive_XinitX : Addr
  d_BadArchive_XinitX : FuncData
  a_is_word : Addr
  d_is_word : FuncData
  a_is_name : Addr
  d_is_name : FuncData
  a_Package_XinitX : Addr
  d_Package_XinitX : FuncData
  a_Archive_XinitX : Addr
  d_Archive_XinitX : FuncData
  a_Archive_of : Addr
  d_Archive_of : FuncData
  p_Archive_of : Addr
  a_Archive_package : Addr
  d_Archive_package : FuncData
  a_Archive_check_names : Addr
  d_Archive_check_names : FuncData
  a_Archive_affected : Addr
  d_Archive_affected : FuncData
  a_law_source : Addr
  d_law_source : FuncData
  a_law_draw : Addr
  d_law_draw : FuncData
  a_law_shuffled : Addr
  d_law_shuffled : FuncData
  a_law_drawn_packages : Addr
  d_law_drawn_packages : FuncData
  a_law_made_archive : Addr
  d_law_made_archive : FuncData
  a_law : Addr
  d_law : FuncData
structure Txt (P : Program) (K : PySem.W.Frag) (mg : Str → Option Value) (ad : Ad) : Prop where
  n_all : mg "all" = none
  n_dict : mg "dict" = none
  n_len : mg "len" = none
  n_list : mg "list" = none
  n_max : mg "max" = none
  n_min : mg "min" = none
  n_range : mg "range" = none
  n_set : mg "set" = none
  n_sorted : mg "sorted" = none
  n_tuple : mg "tuple" = none
  hnx : PySem.W.specialIn K (.builtin "object.__class__") "__get__" = some (some (.builtin "getset_descriptor.__get__"))
  tkx : PySem.W.takesIn K (.builtin "object.__class__") = some true
  mg_Package : mg "Package" = some (.ref ad.c_Package)
  cl_Package : OCls K ad.c_Package
  mk_Package : Mk K ad.c_Package ad.a_Package_XinitX
  na_Package_name : NoAttr K ad.c_Package "name"
  na_Package_needs : NoAttr K ad.c_Package "needs"
  na_Package_staged : NoAttr K ad.c_Package "staged"
  me_Package_XinitX : Meth K ad.c_Package "__init__" ad.a_Package_XinitX
  mg_Archive : mg "Archive" = some (.ref ad.c_Archive)
  cl_Archive : OCls K ad.c_Archive
  mk_Archive : Mk K ad.c_Archive ad.a_Archive_XinitX
  na_Archive_by_name : NoAttr K ad.c_Archive "by_name"
  na_Archive_sorted_names : NoAttr K ad.c_Archive "sorted_names"
  me_Archive_XinitX : Meth K ad.c_Archive "__init__" ad.a_Archive_XinitX
  cm_Archive_of : ClX.CMet K ad.c_Archive (.type "type") "of" ad.p_Archive_of ad.a_Archive_of
  me_Archive_package : Meth K ad.c_Archive "package" ad.a_Archive_package
  me_Archive_check_names : Meth K ad.c_Archive "check_names" ad.a_Archive_check_names
  me_Archive_affected : Meth K ad.c_Archive "affected" ad.a_Archive_affected
  cr_Archive : ClX.CRead K ad.c_Archive (.type "type")
  mg_BadName : mg "BadName" = some (.ref ad.c_BadName)
  mg_SourceError : mg "SourceError" = some (.ref ad.c_SourceError)
  bi_SourceError : BaseI K ad.c_SourceError
  mg_BadArchive : mg "BadArchive" = some (.ref ad.c_BadArchive)
  ox_BadArchive : OxF K ad.c_BadArchive ad.a_BadArchive_XinitX
  na_BadArchive_name : PySem.W.findIn K (.ref ad.c_BadArchive) "name" = some none
  f_BadArchive_XinitX : Fun K "__init__" "BadArchive.__init__" s_BadArchive_XinitX ad.a_BadArchive_XinitX ad.d_BadArchive_XinitX
  fn_BadArchive_XinitX : PySem.W.isFn K (.ref ad.a_BadArchive_XinitX) = true
  fi_BadArchive_XinitX : PySem.W.fnIn K ad.a_BadArchive_XinitX = true
  k_BadArchive_XinitX : PySem.W.keepIn K (.ref ad.a_BadArchive_XinitX) = true
  b_BadArchive_XinitX : Binds K ad.d_BadArchive_XinitX ["self", "name"] []
  f_is_word : Fun K "is_word" "is_word" s_is_word ad.a_is_word ad.d_is_word
  m_is_word : mg "is_word" = some (.ref ad.a_is_word)
  k_is_word : PySem.W.keepIn K (.ref ad.a_is_word) = true
  b_is_word : Binds K ad.d_is_word ["text", "most"] []
  f_is_name : Fun K "is_name" "is_name" s_is_name ad.a_is_name ad.d_is_name
  m_is_name : mg "is_name" = some (.ref ad.a_is_name)
  k_is_name : PySem.W.keepIn K (.ref ad.a_is_name) = true
  b_is_name : Binds K ad.d_is_name ["text"] []
  f_Package_XinitX : Fun K "__init__" "Package.__init__" s_Package_XinitX ad.a_Package_XinitX ad.d_Package_XinitX
  fn_Package_XinitX : PySem.W.isFn K (.ref ad.a_Package_XinitX) = true
  fi_Package_XinitX : PySem.W.fnIn K ad.a_Package_XinitX = true
  k_Package_XinitX : PySem.W.keepIn K (.ref ad.a_Package_XinitX) = true
  b_Package_XinitX : Binds K ad.d_Package_XinitX ["self", "name", "needs", "staged"] []
  f_Archive_XinitX : Fun K "__init__" "Archive.__init__" s_Archive_XinitX ad.a_Archive_XinitX ad.d_Archive_XinitX
  fn_Archive_XinitX : PySem.W.isFn K (.ref ad.a_Archive_XinitX) = true
  fi_Archive_XinitX : PySem.W.fnIn K ad.a_Archive_XinitX = true
  k_Archive_XinitX : PySem.W.keepIn K (.ref ad.a_Archive_XinitX) = true
  b_Archive_XinitX : BStar K ad.d_Archive_XinitX ["self"] "packages"
  f_Archive_of : Fun K "of" "Archive.of" s_Archive_of ad.a_Archive_of ad.d_Archive_of
  fn_Archive_of : PySem.W.isFn K (.ref ad.a_Archive_of) = true
  fi_Archive_of : PySem.W.fnIn K ad.a_Archive_of = true
  k_Archive_of : PySem.W.keepIn K (.ref ad.a_Archive_of) = true
  b_Archive_of : Binds K ad.d_Archive_of ["cls", "packages"] []
  f_Archive_package : Fun K "package" "Archive.package" s_Archive_package ad.a_Archive_package ad.d_Archive_package
  fn_Archive_package : PySem.W.isFn K (.ref ad.a_Archive_package) = true
  fi_Archive_package : PySem.W.fnIn K ad.a_Archive_package = true
  k_Archive_package : PySem.W.keepIn K (.ref ad.a_Archive_package) = true
  b_Archive_package : Binds K ad.d_Archive_package ["self", "name"] []
  f_Archive_check_names : Fun K "check_names" "Archive.check_names" s_Archive_check_names ad.a_Archive_check_names ad.d_Archive_check_names
  fn_Archive_check_names : PySem.W.isFn K (.ref ad.a_Archive_check_names) = true
  fi_Archive_check_names : PySem.W.fnIn K ad.a_Archive_check_names = true
  k_Archive_check_names : PySem.W.keepIn K (.ref ad.a_Archive_check_names) = true
  b_Archive_check_names : Binds K ad.d_Archive_check_names ["self", "names"] []
  f_Archive_affected : Fun K "affected" "Archive.affected" s_Archive_affected ad.a_Archive_affected ad.d_Archive_affected
  fn_Archive_affected : PySem.W.isFn K (.ref ad.a_Archive_affected) = true
  fi_Archive_affected : PySem.W.fnIn K ad.a_Archive_affected = true
  k_Archive_affected : PySem.W.keepIn K (.ref ad.a_Archive_affected) = true
  b_Archive_affected : Binds K ad.d_Archive_affected ["self", "names"] []
  f_law_source : Fun K "_law_source" "_law_source" s_law_source ad.a_law_source ad.d_law_source
  m_law_source : mg "_law_source" = some (.ref ad.a_law_source)
  k_law_source : PySem.W.keepIn K (.ref ad.a_law_source) = true
  b_law_source : Binds K ad.d_law_source ["_law_script", "_law_index"] []
  f_law_draw : Fun K "_law_draw" "_law_draw" s_law_draw ad.a_law_draw ad.d_law_draw
  m_law_draw : mg "_law_draw" = some (.ref ad.a_law_draw)
  k_law_draw : PySem.W.keepIn K (.ref ad.a_law_draw) = true
  b_law_draw : Binds K ad.d_law_draw ["_law_source_here", "_law_bound"] []
  f_law_shuffled : Fun K "_law_shuffled" "_law_shuffled" s_law_shuffled ad.a_law_shuffled ad.d_law_shuffled
  m_law_shuffled : mg "_law_shuffled" = some (.ref ad.a_law_shuffled)
  k_law_shuffled : PySem.W.keepIn K (.ref ad.a_law_shuffled) = true
  b_law_shuffled : Binds K ad.d_law_shuffled ["_law_source_here", "_law_things"] []
  f_law_drawn_packages : Fun K "_law_drawn_packages" "_law_drawn_packages" s_law_drawn_packages ad.a_law_drawn_packages ad.d_law_drawn_packages
  m_law_drawn_packages : mg "_law_drawn_packages" = some (.ref ad.a_law_drawn_packages)
  k_law_drawn_packages : PySem.W.keepIn K (.ref ad.a_law_drawn_packages) = true
  b_law_drawn_packages : Binds K ad.d_law_drawn_packages ["_law_source_here", "_law_many", "_law_staged"] []
  f_law_made_archive : Fun K "_law_made_archive" "_law_made_archive" s_law_made_archive ad.a_law_made_archive ad.d_law_made_archive
  m_law_made_archive : mg "_law_made_archive" = some (.ref ad.a_law_made_archive)
  k_law_made_archive : PySem.W.keepIn K (.ref ad.a_law_made_archive) = true
  b_law_made_archive : Binds K ad.d_law_made_archive ["_law_rows"] []
  f_law : Fun K "law" "law" s_law ad.a_law ad.d_law
  m_law : mg "law" = some (.ref ad.a_law)
  k_law : PySem.W.keepIn K (.ref ad.a_law) = true
  b_law : Binds K ad.d_law ["_law_script"] []
  g_LETTERS : ∃ u, mg "LETTERS" = some u ∧ RelV (.str "abcdefghijklmnopqrstuvwxyz") u
  g_MOST_LETTERS : ∃ u, mg "MOST_LETTERS" = some u ∧ RelV (.int 12) u
end Toy

namespace Toy
open PySem L2
local macro_rules | `(tactic| tm_at "w") => `(tactic| (conv => whnf))
local macro_rules | `(tactic| tm_at "fr") => `(tactic| first | assumption | exact upd_none (by assumption) | exact upd_none (upd_none (by assumption)) | exact upd_none (upd_none (upd_none (by assumption))) | exact upd_none (upd_none (upd_none (upd_none (by assumption)))))
local macro_rules | `(tactic| tm_at "ne") => `(tactic| first | assumption | (apply Ne.symm; assumption) | exact upd_none_ne (by assumption) | exact (upd_none_ne (by assumption)).symm | exact upd_none_ne (upd_none (by assumption)) | exact (upd_none_ne (upd_none (by assumption))).symm | exact upd_none_ne (upd_none (upd_none (by assumption))) | exact (upd_none_ne (upd_none (upd_none (by assumption)))).symm)
local macro_rules | `(tactic| tm_at "heap") => `(tactic| first | assumption | exact upd_same | (refine upd_new ?_ (by tm_at "fr"); tm_at "heap") | (refine upd_oth (by tm_at "ne") ?_; tm_at "heap") | (refine SameB.get (by assumption) (by tm_at "ne") ?_; tm_at "heap") | (refine Same.get (by assumption) ?_; tm_at "heap"))
local macro_rules | `(tactic| tm_at "sq") => `(tactic| first | assumption | exact SqL.of (by tm_at "heap") | exact SqT.of (by tm_at "heap"))
local macro_rules | `(tactic| tm_at "ix") => `(tactic| (conv => whnf); first | refine ⟨_, _, .inl (by tm_at "sq"), rfl, ?_⟩ | refine ⟨_, _, .inr (by tm_at "sq"), rfl, ?_⟩)
local macro_rules | `(tactic| tm_at "sb") => `(tactic| first | assumption | exact SameB.refl | (refine SameB.ws ?_; tm_at "sb") | (refine SameB.wr ?_ (by tm_at "fr"); tm_at "sb") | (refine SameB.trans ?_ (by assumption); tm_at "sb"))
section
variable {P : Program} {w : World} {K : PySem.W.Frag} {mg : Str → Option Value} {base : Heap} {ad : Ad}
theorem ok_law_draw (T : Txt P K mg ad) : FnOk P w K mg base CX0 1 ad.a_law_draw ad.d_law_draw ["_law_source_here", "_law_bound"] spDraw := by
  refine T.f_law_draw.ok sc_law_draw (fun vs H Q E h => ?_) (fun cdv A outer s H vs Q E hr h => ?_)
  · obtain ⟨s, n, k, xs, rfl, _⟩ := h; rfl
  · obtain ⟨s, n, k, xs, rfl, hs, ⟨a, b, c, rfl, ha, hb, hb2, hc, hc2⟩, hk, hn, hn2, q⟩ := h
    refine ⟨_, pss_cons (cs_if (ct_cmp oc_gt (pe_ix (ic_seq (K := K)) (cv 0) pe_int (fun _ _ => rfl)) pe_int (nomark _))
        (pss_cons (ps_set (i := 2) sc_law_draw.nd rfl (by first | exact Or.inl rfl | exact Or.inr rfl) (pe_op oc_mod (pe_ix (ic_seq (K := K)) (cv 0) pe_int (fun _ _ => rfl)) (cv 1)))
        (pss_cons (ps_asg (pe_op oc_div (pe_ix (ic_seq (K := K)) (cv 0) pe_int (fun _ _ => rfl)) (cv 1)) (pg_sub (cv 0) pe_int set_c))
        (pss_one (ps_ret (cv 2)))))
        pss_nil)
      (pss_cons (ps_asg (pe_op (oc_add (K := K)) (pe_ix (ic_seq (K := K)) (cv 0) pe_int (fun _ _ => rfl)) pe_int) (pg_sub (cv 0) pe_int set_c))
      (pss_cons (ps_set (i := 3) sc_law_draw.nd rfl (by first | exact Or.inl rfl | exact Or.inr rfl) (pe_op oc_mod (pe_op oc_pow (pe_op (oc_add (K := K)) (pe_ix (ic_seq (K := K)) (cv 0) pe_int (fun _ _ => rfl)) (pe_op oc_mul pe_int (pe_ix (ic_seq (K := K)) (cv 0) pe_int (fun _ _ => rfl)))) pe_int) (pe_op (oc_add (K := K)) (pe_op oc_pow pe_int pe_int) pe_int)))
      (pss_cons (ps_set (i := 3) sc_law_draw.nd rfl (by first | exact Or.inl rfl | exact Or.inr rfl) (pe_op oc_mod (pe_op oc_pow (pe_op (oc_add (K := K)) (cv 3) (pe_op oc_mul pe_int (pe_ix (ic_seq (K := K)) (cv 0) pe_int (fun _ _ => rfl)))) pe_int) (pe_op (oc_add (K := K)) (pe_op oc_pow pe_int pe_int) pe_int)))
      (pss_one (ps_ret (pe_op oc_mod (pe_op oc_div (cv 3) pe_int) (cv 1))))))), ?_⟩
    tm_at "ix"
    refine ⟨fun h => ?_, fun h => ?_⟩
    · have h := of_decide_eq_true h
      tm_at "ix"
      refine ⟨hn, ?_⟩
      tm_at "ix"
      refine ⟨wide_div hn (b := 200) (by omega) (by decide) (by decide), ?_⟩
      tm_at "w"
      refine ⟨_, 0, hs, rfl, ?_⟩
      exact q _ _ (Int.emod_nonneg _ (by omega)) (Int.emod_lt_of_pos _ hn) ⟨a / n, b, c, rfl, Int.ediv_nonneg ha (by omega), hb, hb2, hc, by omega⟩
    · tm_at "ix"
      tm_at "w"
      refine ⟨_, 2, hs, rfl, ?_⟩
      tm_at "ix"
      tm_at "ix"
      refine ⟨.inl (by decide), ?_⟩
      have e1 : (b + 15485863 * (c + 1)).natAbs < 2 ^ 201 := by omega
      refine ⟨pow_bits e1 (by decide) (by decide) (by decide), ?_⟩
      refine ⟨pow_bits (a := 4) (by decide) (by decide) (by decide) (by decide), ?_⟩
      refine ⟨(by show (0 : Int) < 10 ^ 35 + 69; decide), ?_⟩
      have e2 : ∀ m : Int, 0 ≤ m → m < 2 ^ 130 → (m + 32452843 * (c + 1)).natAbs < 2 ^ 201 := by intro m h1 h2; omega
      tm_at "ix"
      refine ⟨.inl (by decide), ?_⟩
      refine ⟨pow_bits (e2 _ (Int.emod_nonneg _ (by decide)) (Int.lt_trans (Int.emod_lt_of_pos _ (by decide)) (by decide))) (by decide) (by decide) (by decide), ?_⟩
      refine ⟨pow_bits (a := 4) (by decide) (by decide) (by decide) (by decide), ?_⟩
      refine ⟨(by show (0 : Int) < 10 ^ 32 + 49; decide), ?_⟩
      refine ⟨wide_div (by decide) (b := 20) (by decide) (by decide) (by decide), ?_⟩
      refine ⟨hn, ?_⟩
      exact q _ _ (Int.emod_nonneg _ (by omega)) (Int.emod_lt_of_pos _ hn) ⟨a, b, c + 1, rfl, ha, hb, hb2, by omega, by omega⟩
theorem ok_law_source (T : Txt P K mg ad) : FnOk P w K mg base CX0 1 ad.a_law_source ad.d_law_source ["_law_script", "_law_index"] (spSource K) := by
  refine T.f_law_source.ok sc_law_source (fun vs H Q E h => ?_) (fun cdv A outer s H vs Q E hr h => ?_)
  · obtain ⟨a, i, ns, rfl, _⟩ := h; rfl
  · obtain ⟨a, i, ns, rfl, hs, hl, hi, hi2, q⟩ := h
    refine ⟨_, pss_cons (ps_set (i := 2) sc_law_source.nd rfl (by first | exact Or.inl rfl | exact Or.inr rfl) pe_int)
      (pss_cons (PS.cut (cs_if (ct_cmp oc_lt (cv 1) (pe_callB (cc_len (K := K)) (by rfl) T.n_len (by decide +kernel) (pa_cons (cv 0) pa_nil)) (nomark _))
        (pss_one (ps_set (i := 2) sc_law_source.nd rfl (by first | exact Or.inl rfl | exact Or.inr rfl) (pe_ix (ic_seq (K := K)) (cv 0) (cv 1) (fun _ _ => rfl))))
        pss_nil))
      (pss_one (ps_ret (pe_lst (pa_cons (pe_callB (cc_max rfl) (by rfl) T.n_max (by decide +kernel) (pa_cons pe_int (pa_cons (pe_op oc_sub (cv 2) (pe_op oc_pow pe_int pe_int)) pa_nil))) (pa_cons (pe_op (oc_add (K := K)) (pe_op oc_mod (cv 2) (pe_op (oc_add (K := K)) (pe_op oc_pow pe_int pe_int) pe_int)) (pe_op oc_mul pe_int (cv 1))) (pa_cons pe_int pa_nil))))))), ?_⟩
    refine ⟨fun σ' H' => ∃ c : Int, σ' = [some (.ref a), some (.int i), some (.int c)] ∧ H' = H, ?_, ?_⟩
    · tm_at "w"
      refine ⟨ns.map V.int, .inl hs, fun h => ?_, fun h => ⟨_, rfl, rfl⟩⟩
      have h := of_decide_eq_true h
      rw [List.length_map] at h
      obtain ⟨j, rfl⟩ := Int.eq_ofNat_of_zero_le hi
      have hj : j < ns.length := by omega
      exact ⟨_, _, .inl hs, atI_nat (by rw [List.getElem?_map, List.getElem?_eq_getElem hj]; rfl), _, rfl, rfl⟩
    · rintro σ' H' ⟨c, rfl, rfl⟩
      refine ⟨pow_bits (a := 4) (by decide) (by decide) (by decide) (by decide), ?_⟩
      refine ⟨pow_bits (a := 4) (by decide) (by decide) (by decide) (by decide), ?_⟩
      refine ⟨(by show (0 : Int) < 10 ^ 37 + 43; decide), ?_⟩
      refine ⟨.inl (by decide), by show 3 ≤ sizeLine; decide, fun p hp => q _ _ hp ?_⟩
      have h1 : 0 ≤ c % (10 ^ 37 + 43) := Int.emod_nonneg _ (by decide)
      have h2 : c % (10 ^ 37 + 43) < 10 ^ 37 + 43 := Int.emod_lt_of_pos _ (by decide)
      exact ⟨_, _, _, rfl, Int.le_max_left _ _, (by show 0 ≤ c % (10 ^ 37 + 43) + 1299709 * i; omega), (by show c % (10 ^ 37 + 43) + 1299709 * i < 2 ^ 200; omega), by decide, by decide⟩
end
/-! names and paths -/
def lettersC : List Nat := (Str.ofString "abcdefghijklmnopqrstuvwxyz").cps.toList
def wordB (t : Str) (m : Int) : Bool := (decide (1 ≤ (t.length : Int)) && decide ((t.length : Int) ≤ m)) && t.cps.toList.all fun c => decide (c ∈ lettersC)
def spWord : Sp := fun vs H Q _ => ∃ (t : Str) (m : Int), vs = [.str t, .int m] ∧ t.length ≤ 10 ^ 6 ∧ ∀ H', Same H H' → Q (.bl (wordB t m)) H'
section
variable {P : Program} {w : World} {K : PySem.W.Frag} {mg : Str → Option Value} {base : Heap} {ad : Ad}
theorem ok_is_word (T : Txt P K mg ad) : FnOk P w K mg base CX0 1 ad.a_is_word ad.d_is_word ["text", "most"] spWord := by
  refine T.f_is_word.ok sc_is_word (fun vs H Q E h => ?_) (fun cdv A outer s H vs Q E hr h => ?_)
  · obtain ⟨t, m, rfl, _⟩ := h; rfl
  · obtain ⟨t, m, rfl, hl, q⟩ := h
    refine ⟨_, pss_one (ps_ret (ce_and (pe_chain oc_le oc_le pe_int (pe_callB (cc_len (K := K)) (by rfl) T.n_len (by decide +kernel) (pa_cons (cv 0) pa_nil)) (cv 1)) (pe_one (pe_callB (cr_all rfl) (by rfl) T.n_all (by decide +kernel) (pa_cons (pe_lc (own := [("letter", 2)]) (g := gName 2) (by rfl) sc_is_word.nd  (pi_str (cv 0)) (blkOk_by (own := [("letter", 2)]) (N := N_is_word) (sc := defScope s_is_word) (by decide +kernel)) (fun _ _ _ _ _ => pg_name (i := 2) sc_is_word.nd rfl (by first | exact Or.inl rfl | exact Or.inr rfl)) (fun _ _ _ _ _ => pts_nil) (fun _ _ _ _ _ => pe_cmpR (oc_in (K := K)) (cv 2) (pe_globE rfl T.g_LETTERS) rfl)) pa_nil))))), ?_⟩
    tm_at "w"
    refine ⟨by rw [sizeLine_eq]; omega, ?_⟩
    tm_at "w"
    refine ⟨_, rfl, ?_⟩
    by_cases h1 : (1 : Int) ≤ t.length
    · rw [if_pos (decide_eq_true h1)]
      tm_at "w"
      refine ⟨fun h2 => ?_, fun h2 => ?_⟩
      · have h2 : decide ((t.length : Int) ≤ m) = true := h2
        refine ⟨_, rfl, fun D hD => ?_⟩
        refine lc_fun walk_str (fun i => .bl (decide (t.cps.toList.getD i 0 ∈ lettersC))) hD (by show t.length ≤ _; omega) (fun _ _ => trivial) ?_ ?_
        · rintro i x H2 H3 Nx Nz hi s1 ⟨rfl, c, hc, rfl⟩ k
          refine ⟨rfl, ?_⟩
          tm_at "w"
          refine ⟨c, rfl, ?_⟩
          have e : t.cps.toList.getD i 0 = c := by
            rw [List.getD_eq_getElem?_getD, Array.getElem?_toList, hc]; rfl
          have := k H3 (Same.refl _)
          rw [e] at this
          rw [bne_f]; exact this
        · intro H2 s1 e
          refine ⟨D, (List.range t.cps.size).map fun i => decide (t.cps.toList.getD i 0 ∈ lettersC), rfl, SqL.of (by rw [e, List.map_map]; rfl), ?_⟩
          have hq := q H2 s1
          have hw : wordB t m = ((List.range t.cps.size).map fun i => decide (t.cps.toList.getD i 0 ∈ lettersC)).all id := by
            unfold wordB
            rw [decide_eq_true h1, h2, Bool.true_and, Bool.true_and, List.all_map]
            have : t.cps.toList = (List.range t.cps.size).map fun i => t.cps.toList.getD i 0 := by
              apply list_of (by simp)
              intro i y hy
              rw [List.getD_eq_getElem?_getD, hy]; rfl
            conv => lhs; rw [this]
            rw [List.all_map]; rfl
          rw [hw] at hq
          exact hq
      · have h2 : decide ((t.length : Int) ≤ m) = false := h2
        have hq := q H (Same.refl _)
        unfold wordB at hq
        rw [h2, Bool.and_false, Bool.false_and] at hq
        exact hq
    · rw [if_neg (by simpa using h1)]
      have hq := q H (Same.refl _)
      unfold wordB at hq
      rw [decide_eq_false h1, Bool.false_and, Bool.false_and] at hq
      exact .f hq
theorem ok_is_name (T : Txt P K mg ad) : FnOk P w K mg base CX0 2 ad.a_is_name ad.d_is_name ["text"] (fun vs H Q _ => ∃ t : Str, vs = [.str t] ∧ t.length ≤ 10 ^ 5 ∧ ∀ H', Same H H' → Q (.bl (wordB t 12)) H') := by
  refine T.f_is_name.ok sc_is_name (fun vs H Q E h => ?_) (fun cdv A outer s H vs Q E hr h => ?_)
  · obtain ⟨t, rfl, _⟩ := h; rfl
  · obtain ⟨t, rfl, hl, q⟩ := h
    exact ⟨_, pss_one (ps_ret (pe_call (ok_is_word T) (hr.mono (by decide)) rfl T.m_is_word T.k_is_word T.b_is_word .nil pass0 (pa_cons (cv 0) (pa_cons (pe_globE rfl T.g_MOST_LETTERS) pa_nil)))), t, 12, rfl, by omega, q⟩
end
end Toy

namespace Toy
open PySem L2
local macro_rules | `(tactic| tm_at "w") => `(tactic| (conv => whnf))
local macro_rules | `(tactic| tm_at "fr") => `(tactic| first | assumption | exact upd_none (by assumption) | exact upd_none (upd_none (by assumption)) | exact upd_none (upd_none (upd_none (by assumption))) | exact upd_none (upd_none (upd_none (upd_none (by assumption)))))
local macro_rules | `(tactic| tm_at "ne") => `(tactic| first | assumption | (apply Ne.symm; assumption) | exact upd_none_ne (by assumption) | exact (upd_none_ne (by assumption)).symm | exact upd_none_ne (upd_none (by assumption)) | exact (upd_none_ne (upd_none (by assumption))).symm | exact upd_none_ne (upd_none (upd_none (by assumption))) | exact (upd_none_ne (upd_none (upd_none (by assumption)))).symm)
local macro_rules | `(tactic| tm_at "heap") => `(tactic| first | assumption | exact upd_same | (refine upd_new ?_ (by tm_at "fr"); tm_at "heap") | (refine upd_oth (by tm_at "ne") ?_; tm_at "heap") | (refine SameB.get (by assumption) (by tm_at "ne") ?_; tm_at "heap") | (refine Same.get (by assumption) ?_; tm_at "heap"))
local macro_rules | `(tactic| tm_at "sq") => `(tactic| first | assumption | exact SqL.of (by tm_at "heap") | exact SqT.of (by tm_at "heap"))
local macro_rules | `(tactic| tm_at "ix") => `(tactic| (conv => whnf); first | refine ⟨_, _, .inl (by tm_at "sq"), rfl, ?_⟩ | refine ⟨_, _, .inr (by tm_at "sq"), rfl, ?_⟩)
local macro_rules | `(tactic| tm_at "sb") => `(tactic| first | assumption | exact SameB.refl | (refine SameB.ws ?_; tm_at "sb") | (refine SameB.wr ?_ (by tm_at "fr"); tm_at "sb") | (refine SameB.trans ?_ (by assumption); tm_at "sb"))
/-! packages, archives -/
theorem putF2 {a b : Str} {x y : V} (h : ¬ a = b) : putF b y [(a, x)] = [(a, x), (b, y)] := by
  show (if a = b then _ else (a, x) :: putF b y []) = _
  rw [if_neg h]; rfl
theorem putF3 {a b c : Str} {x y z : V} (h1 : ¬ a = c) (h2 : ¬ b = c) : putF c z [(a, x), (b, y)] = [(a, x), (b, y), (c, z)] := by
  show (if a = c then _ else (a, x) :: (if b = c then _ else (b, y) :: putF c z [])) = _
  rw [if_neg h1, if_neg h2]; rfl
structure Pk where
  name : Str
  needs : List Str
  staged : Option (List Str)
def NameOk (n : Str) : Prop := wordB n 12 = true ∧ n.length ≤ 100
def StAt (H : Hp) (v : V) : Option (List Str) → Prop
  | none => v = .non
  | some ls => ∃ t, v = .ref t ∧ H t = some (.tup (ls.map V.str))
theorem StAt.same {H H' : Hp} {v : V} {o : Option (List Str)} (h : StAt H v o) (e : Same H H') : StAt H' v o := by
  cases o with
  | none => exact h
  | some ls => obtain ⟨t, h1, h2⟩ := h; exact ⟨t, h1, e _ _ h2⟩
def PkAt (ad : Ad) (H : Hp) (a : Addr) (p : Pk) : Prop := ∃ dx q v, H a = some (.ins ad.c_Package dx [("name", .str p.name), ("needs", .ref q), ("staged", v)]) ∧ H q = some (.tup (p.needs.map V.str)) ∧ StAt H v p.staged
theorem PkAt.same {ad : Ad} {H H' : Hp} {a : Addr} {p : Pk} (h : PkAt ad H a p) (e : Same H H') : PkAt ad H' a p := by
  obtain ⟨dx, q, v, h1, h2, h3⟩ := h
  exact ⟨dx, q, v, e _ _ h1, e _ _ h2, h3.same e⟩
/-- only x is written, which is neither a package nor a part of one -/
theorem PkAt.sameO {ad : Ad} {H H' : Hp} {a x : Addr} {p : Pk} {o : HO} (hx : H x = some o) (ni : ∀ C d f fs, o ≠ .ins C d (f :: fs)) (nt : ∀ xs, o ≠ .tup xs) (s : SameB x H H') (h : PkAt ad H a p) : PkAt ad H' a p := by
  obtain ⟨dx, q, v, h1, h2, h3⟩ := h
  have ki : ∀ {b C d f fs}, H b = some (.ins C d (f :: fs)) → H' b = some (.ins C d (f :: fs)) := fun {b C d f fs} h => s.get (fun z => by subst z; rw [hx] at h; exact ni _ _ _ _ (Option.some.inj h)) h
  have kt : ∀ {b xs}, H b = some (.tup xs) → H' b = some (.tup xs) := fun {b xs} h => s.get (fun z => by subst z; rw [hx] at h; exact nt _ (Option.some.inj h)) h
  refine ⟨dx, q, v, ki h1, kt h2, ?_⟩
  cases hs : p.staged with
  | none => rw [hs] at h3; exact h3
  | some ls => rw [hs] at h3; obtain ⟨t, e1, e2⟩ := h3; exact ⟨t, e1, kt e2⟩
def PksAt (ad : Ad) (H : Hp) (as : List Addr) (ps : List Pk) : Prop := Paired (fun a p => PkAt ad H a p) as ps
theorem PksAt.same {ad : Ad} {H H' : Hp} {as : List Addr} {ps : List Pk} (x : PksAt ad H as ps) (e : Same H H') : PksAt ad H' as ps := prd_mono (fun _ _ h => PkAt.same h e) x
theorem PksAt.sameO {ad : Ad} {H H' : Hp} {as : List Addr} {x : Addr} {ps : List Pk} {o : HO} (hx : H x = some o) (ni : ∀ C d f fs, o ≠ .ins C d (f :: fs)) (nt : ∀ xs, o ≠ .tup xs) (s : SameB x H H') (g : PksAt ad H as ps) : PksAt ad H' as ps := prd_mono (fun _ _ h => PkAt.sameO hx ni nt s h) g
/-- packages that an archive may have -/
def GoodA (ps : List Pk) : Prop := (ps.map Pk.name).Nodup ∧ ∀ p ∈ ps, (∀ m ∈ p.needs, m ∈ ps.map Pk.name) ∧ (∀ l, p.staged = some l → ∀ m ∈ l, m ∈ p.needs) ∧ p.name.length ≤ 100 ∧ p.needs.length ≤ 100 ∧ ∀ l, p.staged = some l → l.length ≤ 100
def ArAt (ad : Ad) (H : Hp) (a : Addr) (ps : List Pk) : Prop := ∃ dx dd q as, H a = some (.ins ad.c_Archive dx [("by_name", .ref dd), ("sorted_names", .ref q)]) ∧ PksAt ad H as ps ∧ H dd = some (.dK (kvOf (fun p : Addr × Pk => p.2.name) (fun p => .ref p.1) (as.zip ps))) ∧ GoodA ps ∧ ps.length < 60 ∧
  ∃ ns : List Str, H q = some (.tup (ns.map V.str)) ∧ ns.Perm (ps.map Pk.name)
theorem ArAt.same {ad : Ad} {H H' : Hp} {a : Addr} {ps : List Pk} (h : ArAt ad H a ps) (e : Same H H') : ArAt ad H' a ps := by
  obtain ⟨dx, dd, q, as, h1, h2, h3, h4, h5, ns, h6, h7⟩ := h
  exact ⟨dx, dd, q, as, e _ _ h1, h2.same e, e _ _ h3, h4, h5, ns, e _ _ h6, h7⟩
def spPk (ad : Ad) : Sp := fun vs H Q _ => ∃ (x dx q : Addr) (v : V) (p : Pk), vs = [.ref x, .str p.name, .ref q, v] ∧ H x = some (.ins ad.c_Package dx []) ∧ H q = some (.tup (p.needs.map V.str)) ∧ StAt H v p.staged ∧ NameOk p.name ∧
  ∀ H', SameB x H H' → H' x = some (.ins ad.c_Package dx [("name", .str p.name), ("needs", .ref q), ("staged", v)]) → Q .non H'
def spArc (ad : Ad) : Sp := fun vs H Q _ => ∃ (x dx t : Addr) (as : List Addr) (ps : List Pk), vs = [.ref x, .ref t] ∧ H x = some (.ins ad.c_Archive dx []) ∧ H t = some (.tup (as.map V.ref)) ∧ PksAt ad H as ps ∧ GoodA ps ∧ ps.length < 60 ∧
  ∀ H', SameB x H H' → ArAt ad H' x ps → Q .non H'
theorem na_ne : ¬ (("name" : Str) = "needs") := by decide +kernel
theorem na_st : ¬ (("name" : Str) = "staged") := by decide +kernel
theorem ne_st : ¬ (("needs" : Str) = "staged") := by decide +kernel
theorem by_so : ¬ (("by_name" : Str) = "sorted_names") := by decide +kernel
theorem lkk1 {x y z : V} : ([(("name" : Str), x), ("needs", y), ("staged", z)] : List (Str × V)).lookup ("name" : Str) = some x := by rw [List.lookup_cons, beq_self_eq_true]
theorem lkk2 {x y z : V} : ([(("name" : Str), x), ("needs", y), ("staged", z)] : List (Str × V)).lookup ("needs" : Str) = some y := by
  rw [List.lookup_cons, show (("needs" : Str) == "name") = false by decide +kernel, List.lookup_cons, beq_self_eq_true]
theorem lkk3 {x y z : V} : ([(("name" : Str), x), ("needs", y), ("staged", z)] : List (Str × V)).lookup ("staged" : Str) = some z := by
  rw [List.lookup_cons, show (("staged" : Str) == "name") = false by decide +kernel, List.lookup_cons, show (("staged" : Str) == "needs") = false by decide +kernel, List.lookup_cons, beq_self_eq_true]
theorem lka1 {x y : V} : ([(("by_name" : Str), x), ("sorted_names", y)] : List (Str × V)).lookup ("by_name" : Str) = some x := by rw [List.lookup_cons, beq_self_eq_true]
theorem lka2 {x y : V} : ([(("by_name" : Str), x), ("sorted_names", y)] : List (Str × V)).lookup ("sorted_names" : Str) = some y := by
  rw [List.lookup_cons, show (("sorted_names" : Str) == "by_name") = false by decide +kernel, List.lookup_cons, beq_self_eq_true]
theorem lka_no {x y : V} {m : Str} (h1 : m ≠ "by_name") (h2 : m ≠ "sorted_names") : ([(("by_name" : Str), x), ("sorted_names", y)] : List (Str × V)).lookup m = none := by
  rw [List.lookup_cons, beq_false_of_ne h1, List.lookup_cons, beq_false_of_ne h2]; rfl
theorem filt_none {l : List Str} {f : Str → Bool} (h : ∀ m ∈ l, f m = false) : l.filter f = [] := List.filter_eq_nil_iff.mpr fun a ha => by rw [h a ha]; exact Bool.false_ne_true
section
variable {P : Program} {w : World} {K : PySem.W.Frag} {mg : Str → Option Value} {base : Heap} {ad : Ad}
theorem ok_Package_XinitX (T : Txt P K mg ad) : FnOk P w K mg base CX0 6 ad.a_Package_XinitX ad.d_Package_XinitX ["self", "name", "needs", "staged"] (spPk ad) := by
  refine T.f_Package_XinitX.ok sc_Package_XinitX (fun vs H Q E h => ?_) (fun cdv A outer s H vs Q E hr h => ?_)
  · obtain ⟨x, dx, q, v, p, rfl, _⟩ := h; rfl
  · obtain ⟨x, dx, q, v, ⟨n, ms, st⟩, rfl, hx, hq, hs, ⟨hn1, hn2⟩, k⟩ := h
    refine ⟨_, pss_cons (cs_if (pt_not (ct_val (pe_call (ok_is_name T) (hr.mono (by decide)) rfl T.m_is_name T.k_is_name T.b_is_name .nil pass0 (pa_cons (cv 1) pa_nil))))
        (pss_one ps_dead)
        pss_nil)
      (pss_cons (cs_fld (K := K) (cv 0) (cv 1) rfl)
      (pss_cons (cs_fld (K := K) (cv 0) (cv 2) rfl)
      (pss_one (cs_fld (K := K) (cv 0) (cv 3) rfl)))), ?_⟩
    have hn1 : wordB n 12 = true := hn1
    have hn2 : n.length ≤ 100 := hn2
    refine ⟨n, rfl, by omega, fun H1 s1 => ?_⟩
    rw [hn1]
    refine .f ?_
    refine ⟨_, dx, [], s1 _ _ hx, T.cl_Package.cl, T.na_Package_name, by show 0 < 1000; decide, ?_⟩
    refine ⟨_, dx, _, upd_same, T.cl_Package.cl, T.na_Package_needs, by show 1 < 1000; decide, ?_⟩
    refine ⟨_, dx, _, upd_same, T.cl_Package.cl, T.na_Package_staged, ?_, ?_⟩
    · show (putF ("needs" : Str) (V.ref q) [(("name" : Str), V.str n)]).length < 1000
      rw [putF2 na_ne]; show 2 < 1000; decide
    · refine k _ (SameB.ws (SameB.ws (SameB.ws (SameB.of s1)))) ?_
      rw [upd_same]
      show some (HO.ins _ _ (putF ("staged" : Str) v (putF ("needs" : Str) (V.ref q) [(("name" : Str), V.str n)]))) = _
      rw [putF2 na_ne, putF3 na_st ne_st]
end
end Toy

namespace Toy
open PySem L2
local macro_rules | `(tactic| tm_at "w") => `(tactic| (conv => whnf))
local macro_rules | `(tactic| tm_at "fr") => `(tactic| first | assumption | exact upd_none (by assumption) | exact upd_none (upd_none (by assumption)) | exact upd_none (upd_none (upd_none (by assumption))) | exact upd_none (upd_none (upd_none (upd_none (by assumption)))))
local macro_rules | `(tactic| tm_at "ne") => `(tactic| first | assumption | (apply Ne.symm; assumption) | exact upd_none_ne (by assumption) | exact (upd_none_ne (by assumption)).symm | exact upd_none_ne (upd_none (by assumption)) | exact (upd_none_ne (upd_none (by assumption))).symm | exact upd_none_ne (upd_none (upd_none (by assumption))) | exact (upd_none_ne (upd_none (upd_none (by assumption)))).symm)
local macro_rules | `(tactic| tm_at "heap") => `(tactic| first | assumption | exact upd_same | (refine upd_new ?_ (by tm_at "fr"); tm_at "heap") | (refine upd_oth (by tm_at "ne") ?_; tm_at "heap") | (refine SameB.get (by assumption) (by tm_at "ne") ?_; tm_at "heap") | (refine Same.get (by assumption) ?_; tm_at "heap"))
local macro_rules | `(tactic| tm_at "sq") => `(tactic| first | assumption | exact SqL.of (by tm_at "heap") | exact SqT.of (by tm_at "heap"))
local macro_rules | `(tactic| tm_at "ix") => `(tactic| (conv => whnf); first | refine ⟨_, _, .inl (by tm_at "sq"), rfl, ?_⟩ | refine ⟨_, _, .inr (by tm_at "sq"), rfl, ?_⟩)
local macro_rules | `(tactic| tm_at "sb") => `(tactic| first | assumption | exact SameB.refl | (refine SameB.ws ?_; tm_at "sb") | (refine SameB.wr ?_ (by tm_at "fr"); tm_at "sb") | (refine SameB.trans ?_ (by assumption); tm_at "sb"))
theorem prd_len {α β : Type} {F : α → β → Prop} : ∀ {l₁ : List α} {l₂ : List β}, Paired F l₁ l₂ → l₁.length = l₂.length
  | _, _, .nil => rfl
  | _, _, .cons _ t => by rw [List.length_cons, List.length_cons, prd_len t]
theorem _root_.L2.br.fl {b : Bool} {A B : Prop} (e : b = false) (h : B) : br b A B := by subst e; exact .f h
theorem _root_.L2.br.tl {b : Bool} {A B : Prop} (e : b = true) (h : A) : br b A B := by subst e; exact .t h
def Gt (f : Str) : List V → List (Str × V) → Prop := fun ws fs => ∃ t : Str, ws = [.str t] ∧ t.length ≤ 1000 ∧ fs = ([(f, V.str t)] : List (Str × V))
theorem inV_strs {k : Str} {xs : List Str} : inV (.str k) (xs.map V.str) = decide (k ∈ xs) := by
  unfold inV
  rw [List.any_map]
  induction xs with
  | nil => rfl
  | cons x xs ih =>
    rw [List.any_cons, ih]
    show (eqV (V.str x) (V.str k) || _) = _
    have e : eqV (V.str x) (V.str k) = decide (x = k) := by
      by_cases h : x = k
      · subst h; rw [decide_eq_true rfl]; exact beq_self_eq_true _
      · rw [decide_eq_false h]; exact beq_eq_false_iff_ne.mpr h
    rw [e, ← Bool.decide_or]
    exact decide_eq_decide.mpr ⟨fun h => h.elim (fun z => z ▸ List.mem_cons_self) (List.mem_cons_of_mem _), fun h => (List.mem_cons.mp h).imp Eq.symm id⟩
theorem prd_eqmap {α β : Type} {f : α → β} : ∀ {ys : List β} {xs : List α}, Paired (fun y x => y = f x) ys xs → ys = xs.map f
  | _, _, .nil => rfl
  | _, _, .cons r t => by rw [List.map_cons, ← prd_eqmap t, r]
theorem orT_strs {K : PySem.W.Frag} {σ : St} {H : Hp} {v : V} {o : Option (List Str)} {F : VK} (hs : StAt H v o) (q : ∀ (e : Addr) (l : List Str) (H' : Hp), Same H H' → H' e = some (.tup (l.map V.str)) → (∀ m ∈ l, ∃ l', o = some l' ∧ m ∈ l') → l.length ≤ (o.getD []).length → F (.ref e) H') :
    ∃ k, TruV K v H k ∧ if k = true then F v H else tTup tNil σ H F := by
  have emp : tTup tNil σ H F := ⟨Nat.zero_le _, fun e he => q e [] _ (Same.new he) upd_same (fun _ h => nomatch h) (Nat.zero_le _)⟩
  cases o with
  | none =>
    have hs : v = .non := hs
    subst hs
    exact ⟨false, rfl, by rw [if_neg (by decide)]; exact emp⟩
  | some l =>
    obtain ⟨t, rfl, ht⟩ := hs
    cases l with
    | nil => exact ⟨false, .inr (.inl ⟨_, SqT.of ht, rfl⟩), by rw [if_neg (by decide)]; exact emp⟩
    | cons m l => exact ⟨true, .inr (.inl ⟨_, SqT.of ht, rfl⟩), by rw [if_pos rfl]; exact q t (m :: l) H (Same.refl _) ht (fun z hz => ⟨_, rfl, hz⟩) (Nat.le_refl _)⟩
section
variable {P : Program} {w : World} {K : PySem.W.Frag} {mg : Str → Option Value} {base : Heap} {ad : Ad}
theorem ok_BadArchive_XinitX (T : Txt P K mg ad) : FnOk P w K mg base CX0 1 ad.a_BadArchive_XinitX ad.d_BadArchive_XinitX ["self", "name"] (spIx ad.c_BadArchive (Gt "name")) := by
  refine T.f_BadArchive_XinitX.ok sc_BadArchive_XinitX (fun vs H Q E h => ?_) (fun cdv A outer s H vs Q E hr h => ?_)
  · obtain ⟨a, x, fs, rfl, _, ⟨n, rfl, _⟩, _⟩ := h; rfl
  · obtain ⟨a, x, fs, rfl, _, ⟨n, rfl, hn, rfl⟩, ha, q⟩ := h
    refine ⟨_, pss_cons (ps_expr (pe_coinit rfl T.mg_SourceError T.bi_SourceError (pa_cons (cv 0) (pa_cons (pe_joined (.cons pe_str (.cons (pe_fmt (cv 1)) .nil))) pa_nil))))
      (pss_one (ps_ost (cv 0) (cv 1) rfl)), ?_⟩
    tm_at "w"
    refine ⟨_, rfl, by rw [sizeLine_eq]; simp only [str_len_app]; show 0 + 16 ≤ _; omega, ?_⟩
    refine .inl ⟨n, rfl, by rw [sizeLine_eq]; omega, ?_⟩
    refine ⟨_, rfl, by rw [sizeLine_eq]; simp only [str_len_app]; show 0 + 16 + n.length ≤ _; omega, ?_⟩
    refine ⟨a, _, [_], rfl, by show 1 ≤ 1000; decide, T.ox_BadArchive.oex, ha, ?_⟩
    refine ⟨a, _, rfl, T.ox_BadArchive.oex, T.na_BadArchive_name, .inl ⟨ha, fun d hd hn => ?_⟩⟩
    exact q _ d (SameB.ws (SameB.new hd)) hd hn upd_same (upd_oth hn upd_same)
set_option maxHeartbeats 8000000 in
theorem ok_Archive_XinitX (T : Txt P K mg ad) : FnR P w K mg base (L2.CX P w) 8 ad.a_Archive_XinitX (spStar 1 (spArc ad)) := by
  refine T.f_Archive_XinitX.okStar T.b_Archive_XinitX sc_Archive_XinitX (fun cdv A outer s H vs Q E hr h => ?_)
  obtain ⟨x, dx, t, as, ps, rfl, hx, ht, hps, ga, hl, k⟩ := h
  refine ⟨_, pss_cons (cs_fld (K := K) (cv 0) pe_dnewK rfl)
      (pss_cons (ps_set (i := 2) sc_Archive_XinitX.nd rfl (by first | exact Or.inl rfl | exact Or.inr rfl) (pe_lc (own := [("package", 3)]) (g := gName 3) (by rfl) sc_Archive_XinitX.nd  (pic_seq (K := K) (cv 1)) (blkOk_by (own := [("package", 3)]) (N := N_Archive_XinitX) (sc := defScope s_Archive_XinitX) (by decide +kernel)) (fun _ _ _ _ _ => pg_name (i := 3) sc_Archive_XinitX.nd rfl (by first | exact Or.inl rfl | exact Or.inr rfl)) (fun _ _ _ _ _ => pts_nil) (fun _ _ _ _ _ => ce_fld (K := K) (cv 3) rfl)))
      (pss_cons (ps_for (passes_of rfl) rfl (pic_seq (K := K) (cv 1)) (pg_name (i := 3) sc_Archive_XinitX.nd rfl (by first | exact Or.inl rfl | exact Or.inr rfl))
        (pss_cons (ps_setLc (i := 4) (own := [("name", 5)]) (g := gName 5) (by rfl) sc_Archive_XinitX.nd rfl rfl (sw_true rfl rfl rfl (by decide +kernel)) (pic_seq (K := K) (ce_fld (K := K) (cv 3) rfl)) (blkOk_by (own := [("name", 5)]) (N := N_Archive_XinitX) (sc := defScope s_Archive_XinitX) (by decide +kernel)) (fun _ _ _ _ _ => pg_name (i := 5) sc_Archive_XinitX.nd rfl (by first | exact Or.inl rfl | exact Or.inr rfl)) (fun _ _ _ _ _ => pts_one (ct_cmp (oc_notIn (K := K)) (cv 5) (cv 2) rfl)) (fun _ _ _ _ _ => cv 5))
        (pss_cons (ps_setLc (i := 6) (own := [("name", 5)]) (g := gName 5) (by rfl) sc_Archive_XinitX.nd rfl rfl (sw_true rfl rfl rfl (by decide +kernel)) (pic_seq (K := K) (pe_orT (ce_fld (K := K) (cv 3) rfl) (pe_one (pe_tup pa_nil)))) (blkOk_by (own := [("name", 5)]) (N := N_Archive_XinitX) (sc := defScope s_Archive_XinitX) (by decide +kernel)) (fun _ _ _ _ _ => pg_name (i := 5) sc_Archive_XinitX.nd rfl (by first | exact Or.inl rfl | exact Or.inr rfl)) (fun _ _ _ _ _ => pts_one (ct_cmp (oc_notIn (K := K)) (cv 5) (ce_fld (K := K) (cv 3) rfl) rfl)) (fun _ _ _ _ _ => cv 5))
        (pss_cons (cs_if (PW.pt (cw_or (ct_cmp (oc_din hr.units) (ce_fld (K := K) (cv 3) rfl) (ce_fld (K := K) (cv 0) rfl) rfl) (cw_or (ct_cmp (oc_ne (K := K) hr.units) (cv 4) (pe_lst pa_nil) (nomark _)) (pw_or1 (ct_cmp (oc_ne (K := K) hr.units) (cv 6) (pe_lst pa_nil) (nomark _))))))
          (pss_one (ps_raiseX rfl (takes_of rfl rfl rfl rfl) T.ox_BadArchive (ok_BadArchive_XinitX T) (hr.mono (by decide)) T.b_BadArchive_XinitX pass0 rfl T.mg_BadArchive (pa_cons (ce_fld (K := K) (cv 3) rfl) pa_nil)))
          pss_nil)
        (pss_one (ps_dput (hu_of hr) (ce_fld (K := K) (cv 0) rfl) (ce_fld (K := K) (cv 3) rfl) (cv 3) rfl))))))
      (pss_one (cs_fld (K := K) (cv 0) (pe_callTy (cc_tuple (K := K)) (by rfl) T.n_tuple (by decide +kernel) (pa_cons (pe_callB (call_sortedD rfl) (by rfl) T.n_sorted (by decide +kernel) (pa_cons (ce_fld (K := K) (cv 0) rfl) pa_nil)) pa_nil)) rfl)))), ?_⟩
  have hlen : as.length = ps.length := prd_len hps
  intro dd hdd
  have nxd : x ≠ dd := ne_of_none hx hdd
  refine ⟨_, dx, [], upd_new hx hdd, T.cl_Archive.cl, T.na_Archive_by_name, by show 0 < 1000; decide, ?_⟩
  have ntx : t ≠ x := fun z => by subst z; rw [ht] at hx; cases hx
  generalize hG : upd (upd H dd (.dK [])) x _ = G
  have b1 : SameB x H G := hG ▸ SameB.ws (SameB.of (Same.new hdd))
  have gx : G x = some (.ins ad.c_Archive dx [("by_name", .ref dd)]) := by rw [← hG, upd_same]; rfl
  have gd : G dd = some (.dK []) := by rw [← hG]; exact upd_oth nxd.symm upd_same
  clear hG
  have gt := b1.get ntx ht
  have gps : PksAt ad G as ps := PksAt.sameO hx (fun _ _ _ _ z => by cases z) (fun _ z => nomatch z) b1 hps
  refine .inr ⟨t, rfl, ⟨_, SqT.of gt⟩, fun D hD => ?_⟩
  refine lc_fl (walk_tup (xs := as.map V.ref)) (fun _ => true) (fun y (p : Pk) H' => ∃ z, y = .str z ∧ z = p.name) (xs := ps) (by rw [List.length_map, hlen]) (fun y c H3 H4 acc hD3 s3 h => h) hD (by rw [List.length_map, hlen]; omega) (fun H3 s3 => SqT.of (s3 _ _ gt)) ?_ ?_
  · rintro j p y H3 H4 Nx Nz ep s3 ⟨rfl, hy⟩ k1 _
    rw [List.getElem?_map] at hy
    obtain ⟨b, eb, rfl⟩ := Option.map_eq_some_iff.mp hy
    obtain ⟨p', ep', hp'⟩ := prd_get (PksAt.same gps s3) eb
    rw [ep] at ep'
    cases ep'
    obtain ⟨dp, q, v, e1, e2, e3⟩ := hp'
    refine ⟨rfl, ?_⟩
    exact ⟨_, dp, _, _, e1, T.cl_Package.cl, T.na_Package_name, lkk1, k1 rfl _ _ (Same.refl _) ⟨_, rfl, rfl⟩⟩
  intro G2 yv pr s2 hD2
  obtain ⟨zs, rfl, pr'⟩ := valsP pr
  rw [List.filter_eq_self.mpr (fun _ _ => rfl)] at pr'
  obtain rfl := prd_eqmap pr'
  replace b1 := b1.trans (SameB.of s2); replace gx := s2 _ _ gx; replace gd := s2 _ _ gd; replace gt := s2 _ _ gt; replace gps := PksAt.same gps s2
  clear s2 pr pr' hD
  obtain ⟨nd, gpa⟩ := id ga
  refine .inr ⟨t, rfl, ⟨_, SqT.of gt⟩, ?_⟩
  generalize hzp : as.zip ps = zp at *
  have hf : zp.map (fun p => p.2.name) = ps.map Pk.name := by
    rw [← hzp, show (fun p : Addr × Pk => p.2.name) = Pk.name ∘ Prod.snd from rfl, ← List.map_map, List.map_snd_zip (by omega)]
  have hlz : zp.length = ps.length := by rw [← hzp, List.length_zip]; omega
  have ntd : t ≠ dd := fun z => by subst z; rw [gt] at gd; cases gd
  have nDd : D ≠ dd := fun z => by subst z; rw [hD2] at gd; cases gd
  refine for_tup (K := K) (a := t) (xs := as.map V.ref) (fun i σ H' => ∃ u3 u4 u5 u6, σ = [some (.ref x), some (.ref t), some (.ref D), u3, u4, u5, u6] ∧ H' dd = some (.dK (kvOf (fun p : Addr × Pk => p.2.name) (fun p => .ref p.1) (zp.take i))) ∧ SameB dd G2 H')
    ⟨_, _, _, _, rfl, by rw [List.take_zero]; exact gd, SameB.refl⟩ ?_ ?_ ?_
  · rintro i σ H' _ ⟨_, _, _, _, _, _, s3⟩
    exact SqT.of (s3.get ntd gt)
  · rintro i y σ H1 hy ⟨u3, u4, u5, u6, rfl, h1, s3⟩
    rw [List.getElem?_map] at hy
    obtain ⟨b, eb, rfl⟩ := Option.map_eq_some_iff.mp hy
    obtain ⟨p, ep, hp⟩ := prd_get (PksAt.sameO gd (fun _ _ _ _ z => nomatch z) (fun _ z => nomatch z) s3 gps) eb
    have hpm := List.mem_of_getElem? ep
    obtain ⟨g1, g2, g3, g4, g5⟩ := gpa p hpm
    obtain ⟨dp, q, v, e1, e2, e3⟩ := id hp
    have hD1 := s3.get nDd hD2
    have hx1 := s3.get nxd gx
    refine .inr ⟨_, dp, _, _, e1, T.cl_Package.cl, T.na_Package_needs, lkk2, q, rfl, ⟨_, SqT.of e2⟩, fun D4 hD4 => ?_⟩
    refine lc_fl (walk_tup (xs := p.needs.map V.str)) (fun m => decide (m ∉ ps.map Pk.name)) (fun y m H' => ∃ z : Str, y = .str z ∧ z = m) (xs := p.needs) (by rw [List.length_map]) (fun y c H3 H4 acc hD3 s3 h => h) hD4 (by rw [List.length_map]; omega) (fun H3 s4 => SqT.of (s4 _ _ e2)) ?_ ?_
    · rintro j m y H3 H4 Nx Nz em s4 ⟨rfl, hy⟩ k1 k2
      rw [List.getElem?_map, em] at hy
      cases hy
      have hm := g1 m (List.mem_of_getElem? em)
      refine ⟨rfl, ?_⟩
      refine ⟨_, .inl (SqL.of (s4 _ _ hD1)), rfl, flatV_strs _, ?_⟩
      rw [inV_strs, decide_eq_true hm]
      exact k2 (decide_eq_false fun z => z hm) _ (Same.refl _)
    intro H2 yv pr s4 hD5
    obtain ⟨zs, rfl, pr'⟩ := valsP pr
    rw [filt_none (fun m hm => decide_eq_false fun z => z (g1 m hm))] at pr'
    cases pr'
    clear pr
    refine .inr ⟨_, dp, _, _, s4 _ _ e1, T.cl_Package.cl, T.na_Package_staged, lkk3, ?_⟩
    refine orT_strs (e3.same s4) fun e l H3 s5 he hel hll => ?_
    have hin : ∀ m ∈ l, m ∈ p.needs := fun m hm => by
      obtain ⟨l', h2, h3⟩ := hel m hm
      exact g2 l' h2 m h3
    have hl100 : l.length ≤ 100 := by
      cases hst : p.staged with
      | none => rw [hst] at hll; exact Nat.le_trans hll (Nat.zero_le _)
      | some l' => rw [hst] at hll; exact Nat.le_trans hll (g5 l' hst)
    have s45 := s4.trans s5
    refine ⟨e, rfl, ⟨_, SqT.of he⟩, fun D6 hD6 => ?_⟩
    refine lc_fl (walk_tup (xs := l.map V.str)) (fun m => decide (m ∉ p.needs)) (fun y m H' => ∃ z : Str, y = .str z ∧ z = m) (xs := l) (by rw [List.length_map]) (fun y c H3 H4 acc hD3 s3 h => h) hD6 (by rw [List.length_map]; omega) (fun H3 s4 => SqT.of (s4 _ _ he)) ?_ ?_
    · rintro j m y H4 H5 Nx Nz em s6 ⟨rfl, hy⟩ k1 k2
      rw [List.getElem?_map, em] at hy
      cases hy
      have hm := hin m (List.mem_of_getElem? em)
      refine ⟨rfl, ?_⟩
      refine ⟨_, dp, _, _, s6 _ _ (s45 _ _ e1), T.cl_Package.cl, T.na_Package_needs, lkk2, ?_⟩
      refine ⟨_, .inr (SqT.of (s6 _ _ (s45 _ _ e2))), rfl, flatV_strs _, ?_⟩
      rw [inV_strs, decide_eq_true hm]
      exact k2 (decide_eq_false fun z => z hm) _ (Same.refl _)
    intro H4 yv pr s6 hD7
    obtain ⟨zs, rfl, pr'⟩ := valsP pr
    rw [filt_none (fun m hm => decide_eq_false fun z => z (hin m hm))] at pr'
    cases pr'
    clear pr
    have s7 := s45.trans s6
    have hdn : H4 dd = some (.dK (kvOf (fun p : Addr × Pk => p.2.name) (fun p => .ref p.1) (zp.take i))) := s7 _ _ h1
    have ezp : zp[i]? = some (b, p) := by rw [← hzp]; exact zip_get eb ep
    have hnot : p.name ∉ (zp.take i).map (fun p => p.2.name) := by
      rw [List.map_take, hf]
      intro z
      have ei : (ps.map Pk.name)[i]? = some p.name := by rw [List.getElem?_map, ep]; rfl
      have dr := drop_at ei
      rw [dr] at nd
      exact (List.nodup_append.mp nd).2.2 _ z _ List.mem_cons_self rfl
    refine ⟨_, dp, _, _, s7 _ _ e1, T.cl_Package.cl, T.na_Package_name, lkk1, ?_⟩
    refine ⟨_, dx, _, _, s7 _ _ hx1, T.cl_Archive.cl, T.na_Archive_by_name, by rw [List.lookup_cons, beq_self_eq_true], ?_⟩
    refine ⟨_, hdn, ?_⟩
    refine .fl (by rw [bne_f, valV_kv_none]; exact decide_eq_false hnot) ?_
    refine ⟨Nat.zero_le _, fun n1 hn1 => ?_⟩
    refine .inl (rNe_strs (xs := []) (ys := []) (.inl ⟨SqL.of (upd_new (s6 _ _ (s5 _ _ hD5)) hn1), SqL.of upd_same⟩) ?_)
    refine .fl (by simp) ?_
    have s8 := s7.trans (Same.new (o := .lst []) hn1)
    refine ⟨Nat.zero_le _, fun n2 hn2 => ?_⟩
    refine .inl (rNe_strs (xs := []) (ys := []) (.inl ⟨SqL.of (upd_new (upd_new hD7 hn1) hn2), SqL.of upd_same⟩) ?_)
    refine .fl (by simp) ?_
    have s9 := s8.trans (Same.new (o := .lst []) hn2)
    have hdn9 := s9 _ _ h1
    refine ⟨_, dx, _, _, s9 _ _ hx1, T.cl_Archive.cl, T.na_Archive_by_name, by rw [List.lookup_cons, beq_self_eq_true], ?_⟩
    refine ⟨_, dp, _, _, s9 _ _ e1, T.cl_Package.cl, T.na_Package_name, lkk1, ?_⟩
    refine ⟨_, _, rfl, DPut.k (k := Sum.inr p.name) hdn9 (by rw [sizeLine_eq]; unfold kvOf; rw [List.length_map, List.length_take]; omega), ?_⟩
    refine ⟨_, _, _, _, rfl, ?_, (s3.trans (SameB.of s9)).ws⟩
    rw [upd_same, take_snoc ezp]
    have := putK_kv (f := fun p : Addr × Pk => p.2.name) (v := fun p => V.ref p.1) (ps := zp.take i) (a := (b, p)) hnot
    rw [← this]
  · rintro σ H1 ⟨u3, u4, u5, u6, rfl, h1, s3⟩
    rw [List.length_map, hlen, ← hlz, List.take_length] at h1
    have hx1 := s3.get nxd gx
    have hps1 : PksAt ad H1 as ps := PksAt.sameO gd (fun _ _ _ _ z => nomatch z) (fun _ z => nomatch z) s3 gps
    refine ⟨_, dx, _, _, hx1, T.cl_Archive.cl, T.na_Archive_by_name, by rw [List.lookup_cons, beq_self_eq_true], ?_⟩
    refine ⟨dd, _, ps.map Pk.name, rfl, .inl h1, by unfold kvOf; rw [List.map_map, ← hf, List.map_map]; rfl, by rw [List.length_map]; omega, fun ys p1 perm srt hp1 => ?_⟩
    refine ⟨_, .inl ⟨SqL.of upd_same, fun tq htq => ?_⟩⟩
    have s4 : Same H1 (upd (upd H1 p1 (.lst (ys.map V.str))) tq (.tup (ys.map V.str))) := (Same.new hp1).trans (Same.new htq)
    have nxq : x ≠ tq := ne_of_none ((Same.new (o := .lst (ys.map V.str)) hp1) _ _ hx1) htq
    refine ⟨_, dx, _, s4 _ _ hx1, T.cl_Archive.cl, T.na_Archive_sorted_names, by show 1 < 1000; decide, ?_⟩
    generalize hG : upd (upd (upd H1 p1 (.lst (ys.map V.str))) tq (.tup (ys.map V.str))) x _ = G3
    have gx3 : G3 x = some (.ins ad.c_Archive dx [("by_name", .ref dd), ("sorted_names", .ref tq)]) := by
      rw [← hG, upd_same]
      show some (HO.ins _ _ (putF ("sorted_names" : Str) (V.ref tq) [(("by_name" : Str), V.ref dd)])) = _
      rw [putF2 by_so]
    have b4 : SameB x H1 G3 := hG ▸ SameB.ws (SameB.of s4)
    have gq : G3 tq = some (.tup (ys.map V.str)) := by rw [← hG]; exact upd_oth nxq.symm upd_same
    clear hG
    have gd3 : G3 dd = some (.dK (kvOf (fun p : Addr × Pk => p.2.name) (fun p => .ref p.1) zp)) := b4.get nxd.symm h1
    have bb : SameB x H G3 := by
      intro b o hb ho
      by_cases z : b = dd
      · subst z; rw [hdd] at ho; cases ho
      · exact b4 b o hb (s3 b o z (b1 b o hb ho))
    refine k G3 bb ⟨dx, dd, tq, as, gx3, PksAt.sameO hx (fun _ _ _ _ z => by cases z) (fun _ z => nomatch z) bb hps, by rw [hzp]; exact gd3, ga, hl, ys, gq, perm⟩
end
end Toy

namespace Toy
open PySem L2
local macro_rules | `(tactic| tm_at "w") => `(tactic| (conv => whnf))
local macro_rules | `(tactic| tm_at "fr") => `(tactic| first | assumption | exact upd_none (by assumption) | exact upd_none (upd_none (by assumption)) | exact upd_none (upd_none (upd_none (by assumption))) | exact upd_none (upd_none (upd_none (upd_none (by assumption)))))
local macro_rules | `(tactic| tm_at "ne") => `(tactic| first | assumption | (apply Ne.symm; assumption) | exact upd_none_ne (by assumption) | exact (upd_none_ne (by assumption)).symm | exact upd_none_ne (upd_none (by assumption)) | exact (upd_none_ne (upd_none (by assumption))).symm | exact upd_none_ne (upd_none (upd_none (by assumption))) | exact (upd_none_ne (upd_none (upd_none (by assumption)))).symm)
local macro_rules | `(tactic| tm_at "heap") => `(tactic| first | assumption | exact upd_same | (refine upd_new ?_ (by tm_at "fr"); tm_at "heap") | (refine upd_oth (by tm_at "ne") ?_; tm_at "heap") | (refine SameB.get (by assumption) (by tm_at "ne") ?_; tm_at "heap") | (refine Same.get (by assumption) ?_; tm_at "heap"))
local macro_rules | `(tactic| tm_at "sq") => `(tactic| first | assumption | exact SqL.of (by tm_at "heap") | exact SqT.of (by tm_at "heap"))
local macro_rules | `(tactic| tm_at "ix") => `(tactic| (conv => whnf); first | refine ⟨_, _, .inl (by tm_at "sq"), rfl, ?_⟩ | refine ⟨_, _, .inr (by tm_at "sq"), rfl, ?_⟩)
local macro_rules | `(tactic| tm_at "sb") => `(tactic| first | assumption | exact SameB.refl | (refine SameB.ws ?_; tm_at "sb") | (refine SameB.wr ?_ (by tm_at "fr"); tm_at "sb") | (refine SameB.trans ?_ (by assumption); tm_at "sb"))
theorem SameB.same_of_fresh {H H' : Hp} {x dx t : Addr} {o1 o2 o3 : HO} (hx : H x = none) (hd : H dx = none) (ht : H t = none) (e : SameB x (upd (upd (upd H dx o1) x o2) t o3) H') : Same H H' := fun b o h =>
  e b o (ne_of_none h hx) (by rw [upd_ne (ne_of_none h ht), upd_ne (ne_of_none h hx), upd_ne (ne_of_none h hd)]; exact h)
/-! affected -/
def Cl (ps : List Pk) (Z : Str → Prop) : Prop := ∀ p ∈ ps, (∃ m ∈ p.needs, Z m) → Z p.name
/-- what affected returns -/
structure Aff (ps : List Pk) (ns ys : List Str) : Prop where
  inc : ∀ n ∈ ns, n ∈ ys
  sub : ∀ y ∈ ys, y ∈ ps.map Pk.name
  cl : Cl ps (· ∈ ys)
  least : ∀ Z : Str → Prop, (∀ n ∈ ns, Z n) → Cl ps Z → ∀ y ∈ ys, Z y
  nd : ys.Nodup
  srt : PyProof.Rows.sortedS ys = true
theorem nd_le : ∀ {l m : List Str}, l.Nodup → (∀ x ∈ l, x ∈ m) → l.length ≤ m.length
  | [], _, _, _ => Nat.zero_le _
  | x :: l, m, nd, h => by
    rw [List.nodup_cons] at nd
    have hx := h x List.mem_cons_self
    have := nd_le (m := m.erase x) nd.2 fun y hy => (List.mem_erase_of_ne (fun z => nd.1 (by rw [← z]; exact hy))).mpr (h y (List.mem_cons_of_mem _ hy))
    rw [List.length_erase_of_mem hx] at this
    have hp := List.length_pos_of_mem hx
    show l.length + 1 ≤ _
    omega
def spArOf (ad : Ad) : Sp := fun vs H Q _ => ∃ (t : Addr) (as : List Addr) (ps : List Pk), vs = [.ref ad.c_Archive, .ref t] ∧ H t = some (.tup (as.map V.ref)) ∧ PksAt ad H as ps ∧ GoodA ps ∧ ps.length < 60 ∧ ∀ x H', Same H H' → ArAt ad H' x ps → Q (.ref x) H'
/-- the package of a name -/
def spPkg (ad : Ad) : Sp := fun vs H Q _ => ∃ (a : Addr) (p : Pk) (ps : List Pk), vs = [.ref a, .str p.name] ∧ ArAt ad H a ps ∧ p ∈ ps ∧ ∀ b, PkAt ad H b p → Q (.ref b) H
def spChk (ad : Ad) : Sp := fun vs H Q _ => ∃ (a t : Addr) (ns : List Str) (ps : List Pk), vs = [.ref a, .ref t] ∧ ArAt ad H a ps ∧ H t = some (.tup (ns.map V.str)) ∧ (∀ n ∈ ns, n ∈ ps.map Pk.name) ∧ Q .non H
def spAff (ad : Ad) : Sp := fun vs H Q _ => ∃ (a t : Addr) (ns : List Str) (ps : List Pk), vs = [.ref a, .ref t] ∧ ArAt ad H a ps ∧ H t = some (.tup (ns.map V.str)) ∧ (∀ n ∈ ns, n ∈ ps.map Pk.name) ∧ ns.length ≤ 60 ∧
  ∀ (x : Addr) (ys : List Str) (H' : Hp), Same H H' → H' x = some (.tup (ys.map V.str)) → Aff ps ns ys → Q (.ref x) H'
section
variable {P : Program} {w : World} {K : PySem.W.Frag} {mg : Str → Option Value} {base : Heap} {ad : Ad}
theorem ok_Archive_of (T : Txt P K mg ad) : FnOk P w K mg base (L2.CX P w) 10 ad.a_Archive_of ad.d_Archive_of ["cls", "packages"] (spArOf ad) := by
  refine T.f_Archive_of.okX sc_Archive_of (fun vs H Q E h => ?_) (fun cdv A outer s H vs Q E hr h => ?_)
  · obtain ⟨t, as, ps, rfl, _⟩ := h; rfl
  · obtain ⟨t, as, ps, rfl, ht, hps, ga, hl, q⟩ := h
    refine ⟨_, pss_one (ps_ret (pe_mkL1 T.mk_Archive (ok_Archive_XinitX T) (hr.mono (by decide)) 0 rfl (by first | exact Or.inl rfl | exact Or.inr (Or.inl rfl)) (fun σ => passAt (takes_of rfl rfl rfl rfl) σ) (cv 1))), ?_⟩
    refine ⟨rfl, ?_⟩
    refine ⟨t, _, rfl, .inl (SqT.of ht), ?_⟩
    intro x dx hx hdx hne
    have s0 := mkn_same (o1 := .own x) (o2 := .ins ad.c_Archive dx []) hx hdx
    refine ⟨[.ref x], as.map V.ref, rfl, rfl, by rw [List.length_map, prd_len hps, sizeLine_eq]; omega, fun t2 ht2 => ?_⟩
    have nxt : x ≠ t2 := ne_of_none upd_same ht2
    have ht0 : H t2 = none := upd_none (upd_none ht2)
    have s1 := s0.trans (Same.new (o := .tup (as.map V.ref)) ht2)
    exact ⟨x, dx, t2, as, ps, rfl, upd_oth nxt upd_same, upd_same, hps.same s1, ga, hl, fun H' b ha => ⟨rfl, q x H' (SameB.same_of_fresh hx hdx ht0 b) ha⟩⟩
theorem ok_Archive_package (T : Txt P K mg ad) : FnOk P w K mg base CX0 4 ad.a_Archive_package ad.d_Archive_package ["self", "name"] (spPkg ad) := by
  refine T.f_Archive_package.ok sc_Archive_package (fun vs H Q E h => ?_) (fun cdv A outer s H vs Q E hr h => ?_)
  · obtain ⟨a, p, ps, rfl, _⟩ := h; rfl
  · obtain ⟨a, p, ps, rfl, ⟨dx, dd, q, as, h1, h2, h3, ga, hl, ns, h6, h7⟩, hp, k⟩ := h
    refine ⟨_, pss_cons (cs_if (ct_cmp (oc_dnotin hr.units) (cv 1) (ce_fld (K := K) (cv 0) rfl) rfl)
        (pss_one ps_dead)
        pss_nil)
      (pss_one (ps_ret (pe_dget (hu_of hr) (ce_fld (K := K) (cv 0) rfl) (cv 1) (fun _ _ => rfl)))), ?_⟩
    have hlen : as.length = ps.length := prd_len h2
    have hf : (as.zip ps).map (fun p => p.2.name) = ps.map Pk.name := by
      rw [show (fun p : Addr × Pk => p.2.name) = Pk.name ∘ Prod.snd from rfl, ← List.map_map, List.map_snd_zip (by omega)]
    obtain ⟨i, hi, ei⟩ := List.mem_iff_getElem.mp hp
    have ep : ps[i]? = some p := by rw [List.getElem?_eq_getElem hi, ei]
    have hia : i < as.length := by omega
    have ea : as[i]? = some as[i] := List.getElem?_eq_getElem hia
    have ez := zip_get ea ep
    have hv := valV_kv (f := fun p : Addr × Pk => p.2.name) (v := fun p => V.ref p.1) (by rw [hf]; exact ga.1) (List.mem_of_getElem? ez)
    have hs := valV_kv_none (f := fun p : Addr × Pk => p.2.name) (v := fun p => V.ref p.1) (k := p.name) (ps := as.zip ps)
    rw [hf, decide_eq_true (List.mem_map_of_mem hp)] at hs
    refine ⟨_, dx, _, _, h1, T.cl_Archive.cl, T.na_Archive_by_name, lka1, ?_⟩
    refine ⟨_, h3, ?_⟩
    refine .fl (by rw [hs]; rfl) ?_
    refine ⟨_, dx, _, _, h1, T.cl_Archive.cl, T.na_Archive_by_name, lka1, ?_⟩
    refine ⟨_, _, rfl, hv ▸ DGet.k (k := Sum.inr p.name) h3, ?_⟩
    obtain ⟨p', ep', hp'⟩ := prd_get h2 ea
    rw [ep] at ep'
    cases ep'
    exact k _ hp'
theorem pn_by : ("package" : Str) ≠ "by_name" := by decide +kernel
theorem pn_so : ("package" : Str) ≠ "sorted_names" := by decide +kernel
theorem cn_by : ("check_names" : Str) ≠ "by_name" := by decide +kernel
theorem cn_so : ("check_names" : Str) ≠ "sorted_names" := by decide +kernel
theorem an_by : ("affected" : Str) ≠ "by_name" := by decide +kernel
theorem an_so : ("affected" : Str) ≠ "sorted_names" := by decide +kernel
theorem ok_Archive_check_names (T : Txt P K mg ad) : FnOk P w K mg base CX0 6 ad.a_Archive_check_names ad.d_Archive_check_names ["self", "names"] (spChk ad) := by
  refine T.f_Archive_check_names.ok sc_Archive_check_names (fun vs H Q E h => ?_) (fun cdv A outer s H vs Q E hr h => ?_)
  · obtain ⟨a, t, ns, ps, rfl, _⟩ := h; rfl
  · obtain ⟨a, t, ns, ps, rfl, ha, ht, hn, q⟩ := h
    refine ⟨_, pss_one (ps_for PassesOwn.never rfl (pic_seq (K := K) (cv 1)) (pg_name (i := 2) sc_Archive_check_names.nd rfl (by first | exact Or.inl rfl | exact Or.inr rfl))
        (pss_one (ps_expr (pe_meth (cv 0) T.cl_Archive.cl T.me_Archive_package (ok_Archive_package T) (hr.mono (by decide)) T.b_Archive_package .nil pass0 (pa_cons (cv 2) pa_nil))))), ?_⟩
    obtain ⟨dx, dd, q1, as, h1, _⟩ := id ha
    refine .inr ⟨t, rfl, ⟨_, SqT.of ht⟩, ?_⟩
    refine for_tup (K := K) (a := t) (xs := ns.map V.str) (fun i σ H' => ∃ u, σ = [some (.ref a), some (.ref t), u] ∧ H' = H) ⟨_, rfl, rfl⟩ ?_ ?_ ?_
    · rintro i σ H' _ ⟨_, _, rfl⟩
      exact SqT.of ht
    · rintro i y σ H' hy ⟨u, rfl, rfl⟩
      rw [List.getElem?_map] at hy
      obtain ⟨n, en, rfl⟩ := Option.map_eq_some_iff.mp hy
      obtain ⟨p, hp, ep⟩ := List.mem_map.mp (hn n (List.mem_of_getElem? en))
      subst ep
      refine ⟨a, dx, _, rfl, h1, lka_no pn_by pn_so, ?_⟩
      exact ⟨a, p, ps, rfl, ha, hp, fun b _ => ⟨_, rfl, rfl⟩⟩
    · rintro σ H' ⟨u, rfl, rfl⟩
      exact q
end
end Toy

namespace Toy
open PySem L2
local macro_rules | `(tactic| tm_at "w") => `(tactic| (conv => whnf))
local macro_rules | `(tactic| tm_at "fr") => `(tactic| first | assumption | exact upd_none (by assumption) | exact upd_none (upd_none (by assumption)) | exact upd_none (upd_none (upd_none (by assumption))) | exact upd_none (upd_none (upd_none (upd_none (by assumption)))))
local macro_rules | `(tactic| tm_at "ne") => `(tactic| first | assumption | (apply Ne.symm; assumption) | exact upd_none_ne (by assumption) | exact (upd_none_ne (by assumption)).symm | exact upd_none_ne (upd_none (by assumption)) | exact (upd_none_ne (upd_none (by assumption))).symm | exact upd_none_ne (upd_none (upd_none (by assumption))) | exact (upd_none_ne (upd_none (upd_none (by assumption)))).symm)
local macro_rules | `(tactic| tm_at "heap") => `(tactic| first | assumption | exact upd_same | (refine upd_new ?_ (by tm_at "fr"); tm_at "heap") | (refine upd_oth (by tm_at "ne") ?_; tm_at "heap") | (refine SameB.get (by assumption) (by tm_at "ne") ?_; tm_at "heap") | (refine Same.get (by assumption) ?_; tm_at "heap"))
local macro_rules | `(tactic| tm_at "sq") => `(tactic| first | assumption | exact SqL.of (by tm_at "heap") | exact SqT.of (by tm_at "heap"))
local macro_rules | `(tactic| tm_at "ix") => `(tactic| (conv => whnf); first | refine ⟨_, _, .inl (by tm_at "sq"), rfl, ?_⟩ | refine ⟨_, _, .inr (by tm_at "sq"), rfl, ?_⟩)
local macro_rules | `(tactic| tm_at "sb") => `(tactic| first | assumption | exact SameB.refl | (refine SameB.ws ?_; tm_at "sb") | (refine SameB.wr ?_ (by tm_at "fr"); tm_at "sb") | (refine SameB.trans ?_ (by assumption); tm_at "sb"))
theorem nodup_inj {α β : Type} {f : α → β} : ∀ {l : List α} {a b : α}, (l.map f).Nodup → a ∈ l → b ∈ l → f a = f b → a = b
  | x :: t, a, b, nd, ha, hb, e => by
    rw [List.map_cons, List.nodup_cons] at nd
    rcases List.mem_cons.mp ha with z | z <;> rcases List.mem_cons.mp hb with y | y
    · rw [z, y]
    · exact absurd (by rw [← z, e]; exact List.mem_map_of_mem y) nd.1
    · exact absurd (by rw [← y, ← e]; exact List.mem_map_of_mem z) nd.1
    · exact nodup_inj nd.2 z y e
/-- what has been found on the way -/
structure Fd (ps : List Pk) (ns fnd : List Str) : Prop where
  nd : fnd.Nodup
  sub : ∀ y ∈ fnd, y ∈ ps.map Pk.name
  inc : ∀ n ∈ ns, n ∈ fnd
  least : ∀ Z : Str → Prop, (∀ n ∈ ns, Z n) → Cl ps Z → ∀ y ∈ fnd, Z y
theorem Fd.le {ps : List Pk} {ns fnd : List Str} (F : Fd ps ns fnd) : fnd.length ≤ ps.length := by
  have := nd_le F.nd F.sub
  rw [List.length_map] at this
  exact this
theorem Fd.snoc {ps : List Pk} {ns fnd : List Str} {p : Pk} (F : Fd ps ns fnd) (hp : p ∈ ps) (n : p.name ∉ fnd) (h : ∃ m ∈ p.needs, m ∈ fnd) : Fd ps ns (fnd ++ [p.name]) := by
  refine ⟨nodup_snoc F.nd n, fun y hy => ?_, fun m hm => List.mem_append_left _ (F.inc m hm), fun Z h1 h2 y hy => ?_⟩
  · rcases List.mem_append.mp hy with z | z
    · exact F.sub y z
    · rw [List.mem_singleton.mp z]; exact List.mem_map_of_mem hp
  · rcases List.mem_append.mp hy with z | z
    · exact F.least Z h1 h2 y z
    · rw [List.mem_singleton.mp z]
      obtain ⟨m, m1, m2⟩ := h
      exact h2 p hp ⟨m, m1, F.least Z h1 h2 m m2⟩
section
variable {P : Program} {w : World} {K : PySem.W.Frag} {mg : Str → Option Value} {base : Heap} {ad : Ad}
set_option maxHeartbeats 16000000 in
theorem ok_Archive_affected (T : Txt P K mg ad) : FnOk P w K mg base CX0 8 ad.a_Archive_affected ad.d_Archive_affected ["self", "names"] (spAff ad) := by
  refine T.f_Archive_affected.ok sc_Archive_affected (fun vs H Q E h => ?_) (fun cdv A outer s H vs Q E hr h => ?_)
  · obtain ⟨a, t, ns, ps, rfl, _⟩ := h; rfl
  · obtain ⟨a, t, ns, ps, rfl, ha, ht, hn, hl60, q⟩ := h
    refine ⟨_, pss_cons (ps_expr (pe_meth (cv 0) T.cl_Archive.cl T.me_Archive_check_names (ok_Archive_check_names T) (hr.mono (by decide)) T.b_Archive_check_names .nil pass0 (pa_cons (cv 1) pa_nil)))
      (pss_cons (ps_set (i := 2) sc_Archive_affected.nd rfl (by first | exact Or.inl rfl | exact Or.inr rfl) (pe_callB cc_sortedSS (by rfl) T.n_sorted (by decide +kernel) (pa_cons (pe_callTy (cc_setS (K := K)) (by rfl) T.n_set (by decide +kernel) (pa_cons (cv 1) pa_nil)) pa_nil)))
      (pss_cons (ps_set (i := 3) sc_Archive_affected.nd rfl (by first | exact Or.inl rfl | exact Or.inr rfl) pe_bl)
      (pss_cons (ps_while PassesOwn.never (ct_val (cv 3))
        (pss_cons (ps_set (i := 3) sc_Archive_affected.nd rfl (by first | exact Or.inl rfl | exact Or.inr rfl) pe_bl)
        (pss_one (ps_for PassesOwn.never rfl (pic_seq (K := K) (ce_fld (K := K) (cv 0) rfl)) (pg_name (i := 4) sc_Archive_affected.nd rfl (by first | exact Or.inl rfl | exact Or.inr rfl))
          (pss_one (cs_if (PW.pt (cw_and (ct_cmp (oc_notIn (K := K)) (cv 4) (cv 2) rfl) (pw_and1 (ct_cmp (oc_ne (K := K) hr.units) (pe_lc (own := [("need", 5)]) (g := gName 5) (by rfl) sc_Archive_affected.nd  (pic_seq (K := K) (ce_fld (K := K) (pe_dget (hu_of hr) (ce_fld (K := K) (cv 0) rfl) (cv 4) (fun _ _ => rfl)) rfl)) (blkOk_by (own := [("need", 5)]) (N := N_Archive_affected) (sc := defScope s_Archive_affected) (by decide +kernel)) (fun _ _ _ _ _ => pg_name (i := 5) sc_Archive_affected.nd rfl (by first | exact Or.inl rfl | exact Or.inr rfl)) (fun _ _ _ _ _ => pts_one (ct_cmp (oc_in (K := K)) (cv 5) (cv 2) rfl)) (fun _ _ _ _ _ => cv 5)) (pe_lst pa_nil) (nomark _)))))
            (pss_cons (ps_expr (pe_bm PySem.F.plainAttrs_list PySem.F.slot_list_append PySem.F.type_list_append (mc_append) (cv 2) (pa_cons (cv 4) pa_nil)))
            (pss_one (ps_set (i := 3) sc_Archive_affected.nd rfl (by first | exact Or.inl rfl | exact Or.inr rfl) pe_bl)))
            pss_nil))))))
      (pss_one (ps_ret (pe_callTy (cc_tuple (K := K)) (by rfl) T.n_tuple (by decide +kernel) (pa_cons (pe_callB (cc_sortedL (K := K)) (by rfl) T.n_sorted (by decide +kernel) (pa_cons (cv 2) pa_nil)) pa_nil))))))), ?_⟩
    obtain ⟨dx, dd, sq, as, h1, h2, h3, ga, hl, sn, h6, h7⟩ := id ha
    have hlen : as.length = ps.length := prd_len h2
    have hf : (as.zip ps).map (fun p => p.2.name) = ps.map Pk.name := by
      rw [show (fun p : Addr × Pk => p.2.name) = Pk.name ∘ Prod.snd from rfl, ← List.map_map, List.map_snd_zip (by omega)]
    refine ⟨a, dx, _, rfl, h1, lka_no cn_by cn_so, ?_⟩
    refine ⟨a, t, ns, ps, rfl, ha, ht, hn, ?_⟩
    refine ⟨ns, .inr (SqT.of ht), ?_, fun p1 ks1 hp1 _ _ hm1 => ?_⟩
    · have : (64 : Nat) ≤ scanBound := by decide
      omega
    refine ⟨_, ks1.length, upd_same, by omega, fun ys0 f srt0 nd0 mem0 hl0 hf0 => ?_⟩
    generalize hG0 : upd (upd H p1 _) f (HO.lst (ys0.map V.str)) = G0
    have s0 : Same H G0 := hG0 ▸ (Same.new hp1).trans (Same.new hf0)
    have gf0 : G0 f = some (.lst (ys0.map V.str)) := hG0 ▸ upd_same
    have hfn : H f = none := upd_none hf0
    clear hG0
    have mem0 : ∀ k, k ∈ ys0 ↔ k ∈ ns := fun k => (mem0 k).trans decide_eq_true_iff
    have F0 : Fd ps ns ys0 := ⟨nd0, fun y hy => hn y ((mem0 y).mp hy), fun n h => (mem0 n).mpr h, fun Z h1 _ y hy => h1 y ((mem0 y).mp hy)⟩
    refine ⟨fun m σ H' => ∃ (fnd : List Str) (g : Bool) (u v : Option V), σ = [some (.ref a), some (.ref t), some (.ref f), some (.bl g), u, v] ∧ H' f = some (.lst (fnd.map V.str)) ∧ Same H H' ∧ Fd ps ns fnd ∧ (g = false → Cl ps (· ∈ fnd)) ∧ m = 2 * (ps.length - fnd.length) + (if g = true then 1 else 0),
      ⟨_, ys0, true, _, _, rfl, gf0, s0, F0, fun z => (nomatch z), rfl⟩, ?_⟩
    rintro m σ H1 ⟨fnd, g, u, v, rfl, g1, s1, F, hc, rfl⟩
    have Fle := F.le
    cases g with
    | false =>
      refine ⟨fnd, SqL.of g1, by omega, fun ys p pm srt hp => ?_⟩
      refine ⟨_, .inl ⟨SqL.of upd_same, fun x hx => ?_⟩⟩
      have hc := hc rfl
      exact q x ys _ (s1.trans ((Same.new hp).trans (Same.new hx))) upd_same ⟨fun n h => pm.mem_iff.mpr (F.inc n h), fun y hy => F.sub y (pm.mem_iff.mp hy), fun p hp ⟨m, m1, m2⟩ => pm.mem_iff.mpr (hc p hp ⟨m, m1, pm.mem_iff.mp m2⟩), fun Z h1 h2 y hy => F.least Z h1 h2 y (pm.mem_iff.mp hy), pm.nodup_iff.mpr F.nd, srt⟩
    | true =>
      refine ⟨fun σ' H' => ∃ m', m' < 2 * (ps.length - fnd.length) + 1 ∧ ∃ (fnd : List Str) (g : Bool) (u v : Option V), σ' = [some (.ref a), some (.ref t), some (.ref f), some (.bl g), u, v] ∧ H' f = some (.lst (fnd.map V.str)) ∧ Same H H' ∧ Fd ps ns fnd ∧ (g = false → Cl ps (· ∈ fnd)) ∧ m' = 2 * (ps.length - fnd.length) + (if g = true then 1 else 0), fun _ _ z => z, ?_⟩
      refine .inr ⟨_, dx, _, _, s1 _ _ h1, T.cl_Archive.cl, T.na_Archive_sorted_names, lka2, sq, rfl, ⟨_, SqT.of (s1 _ _ h6)⟩, ?_⟩
      refine for_tup (K := K) (a := sq) (xs := sn.map V.str) (fun i σ H' => ∃ (fn2 : List Str) (g : Bool) (u v : Option V), σ = [some (.ref a), some (.ref t), some (.ref f), some (.bl g), u, v] ∧ H' f = some (.lst (fn2.map V.str)) ∧ Same H H' ∧ Fd ps ns fn2 ∧ (g = false → fn2 = fnd ∧ ∀ n ∈ sn.take i, ∀ p ∈ ps, p.name = n → (∃ m ∈ p.needs, m ∈ fnd) → n ∈ fnd) ∧ (g = true → fnd.length < fn2.length))
        ⟨fnd, false, _, _, rfl, g1, s1, F, fun _ => ⟨rfl, fun n hn => by rw [List.take_zero] at hn; cases hn⟩, fun z => (nomatch z)⟩ ?_ ?_ ?_
      · rintro i σ H' _ ⟨_, _, _, _, _, _, s2, _⟩
        exact SqT.of (s2 _ _ h6)
      · rintro i y σ H2 hy ⟨fn2, g, u, v, rfl, g2, s2, F2, c1, c2⟩
        rw [List.getElem?_map] at hy
        obtain ⟨n, en, rfl⟩ := Option.map_eq_some_iff.mp hy
        obtain ⟨p, hp, ep⟩ := List.mem_map.mp (h7.mem_iff.mp (List.mem_of_getElem? en))
        subst ep
        have tk := take_snoc en
        have Fl2 := F2.le
        have keep : (p.name ∈ fn2 ∨ ¬ ∃ m ∈ p.needs, m ∈ fn2) → ∀ (w1 w2 : Option V) (G : Hp), Same H2 G → ∃ (fn3 : List Str) (g' : Bool) (u v : Option V), [some (V.ref a), some (.ref t), some (.ref f), some (.bl g), w1, w2] = [some (.ref a), some (.ref t), some (.ref f), some (.bl g'), u, v] ∧ G f = some (.lst (fn3.map V.str)) ∧ Same H G ∧ Fd ps ns fn3 ∧ (g' = false → fn3 = fnd ∧ ∀ n ∈ sn.take (i + 1), ∀ p ∈ ps, p.name = n → (∃ m ∈ p.needs, m ∈ fnd) → n ∈ fnd) ∧ (g' = true → fnd.length < fn3.length) :=
          fun hk w1 w2 G s3 => ⟨fn2, g, w1, w2, rfl, s3 _ _ g2, s2.trans s3, F2, fun hg => by
            obtain ⟨e, c1⟩ := c1 hg
            refine ⟨e, fun n hn p' hp' en' hm => ?_⟩
            rw [tk] at hn
            rcases List.mem_append.mp hn with z | z
            · exact c1 n z p' hp' en' hm
            · have ez : n = p.name := List.mem_singleton.mp z
              rw [ez] at en' ⊢
              have : p' = p := nodup_inj ga.1 hp' hp en'
              subst this
              rw [← e] at hm ⊢
              exact hk.elim id fun z => absurd hm z, c2⟩
        refine ⟨_, .inl (SqL.of g2), rfl, flatV_strs _, ?_⟩
        rw [inV_strs]
        by_cases hin : p.name ∈ fn2
        · refine .fl (by rw [decide_eq_true hin]; rfl) ?_
          refine .f ?_
          obtain ⟨x1, x2, x3, x4, e, r⟩ := keep (.inl hin) (some (.str p.name)) v H2 (Same.refl _)
          exact ⟨x1, x2, x3, x4, e, r⟩
        · refine .tl (by rw [decide_eq_false hin]; rfl) ?_
          obtain ⟨k, hk, ek⟩ := List.mem_iff_getElem.mp hp
          have epk : ps[k]? = some p := by rw [List.getElem?_eq_getElem hk, ek]
          have hka : k < as.length := by omega
          have ea : as[k]? = some as[k] := List.getElem?_eq_getElem hka
          have hv := valV_kv (f := fun p : Addr × Pk => p.2.name) (v := fun p => V.ref p.1) (by rw [hf]; exact ga.1) (List.mem_of_getElem? (zip_get ea epk))
          obtain ⟨p', ep', hp'⟩ := prd_get (PksAt.same h2 s2) ea
          rw [epk] at ep'
          cases ep'
          obtain ⟨dp, qn, vv, e1, e2, e3⟩ := hp'
          refine .inr ⟨_, dx, _, _, s2 _ _ h1, T.cl_Archive.cl, T.na_Archive_by_name, lka1, ?_⟩
          refine ⟨_, _, rfl, hv ▸ DGet.k (k := Sum.inr p.name) (s2 _ _ h3), ?_⟩
          refine ⟨_, dp, _, _, e1, T.cl_Package.cl, T.na_Package_needs, lkk2, qn, rfl, ⟨_, SqT.of e2⟩, fun D hD => ?_⟩
          have hn100 := (ga.2 p hp).2.2.2.1
          refine lc_fl (walk_tup (xs := p.needs.map V.str)) (fun m => decide (m ∈ fn2)) (fun y m H' => ∃ z : Str, y = .str z ∧ z = m) (xs := p.needs) (by rw [List.length_map]) (fun y c H3 H4 acc hD3 s3 h => h) hD (by rw [List.length_map]; omega) (fun H3 s4 => SqT.of (s4 _ _ e2)) ?_ ?_
          · rintro j m y H3 H4 Nx Nz em s4 ⟨rfl, hy⟩ k1 k2
            rw [List.getElem?_map, em] at hy
            cases hy
            refine ⟨rfl, ?_⟩
            refine ⟨_, .inl (SqL.of (s4 _ _ g2)), rfl, flatV_strs _, ?_⟩
            rw [inV_strs]
            by_cases hm : m ∈ fn2
            · rw [decide_eq_true hm]
              exact k1 (decide_eq_true hm) _ _ (Same.refl _) ⟨_, rfl, rfl⟩
            · rw [decide_eq_false hm]
              exact k2 (decide_eq_false hm) _ (Same.refl _)
          intro H3 yv pr s3 hD3
          obtain ⟨zs, rfl, pr'⟩ := valsP pr
          have ez := prd_eqmap (f := id) pr'
          rw [List.map_id] at ez
          subst ez
          refine ⟨Nat.zero_le _, fun e he => ?_⟩
          have s4 := s3.trans (Same.new (o := .lst []) he)
          refine .inl (rNe_strs (ys := []) (.inl ⟨SqL.of (upd_new hD3 he), SqL.of upd_same⟩) ?_)
          have hiff : p.needs.filter (fun m => decide (m ∈ fn2)) = [] ↔ ¬ ∃ m ∈ p.needs, m ∈ fn2 := by
            rw [List.filter_eq_nil_iff]
            constructor
            · rintro h ⟨m, m1, m2⟩; exact h m m1 (decide_eq_true m2)
            · intro h m m1 m2; exact h ⟨m, m1, of_decide_eq_true m2⟩
          by_cases hz : p.needs.filter (fun m => decide (m ∈ fn2)) = []
          · refine .fl (by rw [decide_eq_true hz]; rfl) ?_
            obtain ⟨x1, x2, x3, x4, e, r⟩ := keep (.inr (hiff.mp hz)) (some (.str p.name)) v _ s4
            exact ⟨x1, x2, x3, x4, e, r⟩
          · refine .tl (by rw [decide_eq_false hz]; rfl) ?_
            have hex : ∃ m ∈ p.needs, m ∈ fn2 := Classical.byContradiction fun z => hz (hiff.mpr z)
            refine ⟨.inl ⟨rfl, _, SqL.of (s4 _ _ g2)⟩, ?_⟩
            refine ⟨_, s4 _ _ g2, by rw [List.length_map, sizeLine_eq]; omega, ?_⟩
            refine ⟨fn2 ++ [p.name], true, _, _, rfl, by rw [upd_same, List.map_append]; rfl, (s2.trans s4).wr hfn, F2.snoc hp hin hex, fun z => (nomatch z), fun _ => ?_⟩
            rw [List.length_append]
            cases g with
            | true => have := c2 rfl; show _ < _ + 1; omega
            | false => have := (c1 rfl).1; subst this; show _ < _ + 1; omega
      · rintro σ H2 ⟨fn2, g, u, v, rfl, g2, s2, F2, c1, c2⟩
        have Fl2 := F2.le
        refine ⟨_, ?_, fn2, g, u, v, rfl, g2, s2, F2, fun hg => ?_, rfl⟩
        · cases g with
          | true => have := c2 rfl; rw [if_pos rfl]; omega
          | false => rw [if_neg (by decide)]; have := (c1 rfl).1; subst this; omega
        · obtain ⟨rfl, c1⟩ := c1 hg
          rw [List.length_map, List.take_length] at c1
          exact fun p hp hm => c1 p.name (h7.mem_iff.mpr (List.mem_map_of_mem hp)) p hp rfl hm
end
end Toy

namespace Toy
open PySem L2
local macro_rules | `(tactic| tm_at "w") => `(tactic| (conv => whnf))
local macro_rules | `(tactic| tm_at "fr") => `(tactic| first | assumption | exact upd_none (by assumption) | exact upd_none (upd_none (by assumption)) | exact upd_none (upd_none (upd_none (by assumption))) | exact upd_none (upd_none (upd_none (upd_none (by assumption)))))
local macro_rules | `(tactic| tm_at "ne") => `(tactic| first | assumption | (apply Ne.symm; assumption) | exact upd_none_ne (by assumption) | exact (upd_none_ne (by assumption)).symm | exact upd_none_ne (upd_none (by assumption)) | exact (upd_none_ne (upd_none (by assumption))).symm | exact upd_none_ne (upd_none (upd_none (by assumption))) | exact (upd_none_ne (upd_none (upd_none (by assumption)))).symm)
local macro_rules | `(tactic| tm_at "heap") => `(tactic| first | assumption | exact upd_same | (refine upd_new ?_ (by tm_at "fr"); tm_at "heap") | (refine upd_oth (by tm_at "ne") ?_; tm_at "heap") | (refine SameB.get (by assumption) (by tm_at "ne") ?_; tm_at "heap") | (refine Same.get (by assumption) ?_; tm_at "heap"))
local macro_rules | `(tactic| tm_at "sq") => `(tactic| first | assumption | exact SqL.of (by tm_at "heap") | exact SqT.of (by tm_at "heap"))
local macro_rules | `(tactic| tm_at "ix") => `(tactic| (conv => whnf); first | refine ⟨_, _, .inl (by tm_at "sq"), rfl, ?_⟩ | refine ⟨_, _, .inr (by tm_at "sq"), rfl, ?_⟩)
local macro_rules | `(tactic| tm_at "sb") => `(tactic| first | assumption | exact SameB.refl | (refine SameB.ws ?_; tm_at "sb") | (refine SameB.wr ?_ (by tm_at "fr"); tm_at "sb") | (refine SameB.trans ?_ (by assumption); tm_at "sb"))
/-! the law's packages -/
def spShuf : Sp := fun vs H Q _ => ∃ (s l : Addr) (k : Nat) (xs ts : List V), vs = [.ref s, .ref l] ∧ H s = some (.lst xs) ∧ SrcL k xs ∧ k < 2 ^ 40 ∧ H l = some (.lst ts) ∧ l ≠ s ∧ ts.length ≤ 1000 ∧
  ∀ (p : Addr) (us ys : List V) (H' : Hp), us.Perm ts → H p = none → H' p = some (.lst us) → H' s = some (.lst ys) → SrcL (k + ts.length) ys → SameB s H H' → Q (.ref p) H'
def RowAt (H : Hp) (a : Addr) (p : Pk) : Prop := ∃ q v, H a = some (.tup [.str p.name, .ref q, v]) ∧ H q = some (.tup (p.needs.map V.str)) ∧ StAt H v p.staged
theorem RowAt.same {H H' : Hp} {a : Addr} {p : Pk} (h : RowAt H a p) (e : Same H H') : RowAt H' a p := by
  obtain ⟨q, v, h1, h2, h3⟩ := h
  exact ⟨q, v, e _ _ h1, e _ _ h2, h3.same e⟩
theorem RowAt.sameL {H H' : Hp} {a x : Addr} {p : Pk} {ys : List V} (hx : H x = some (.lst ys)) (s : SameB x H H') (h : RowAt H a p) : RowAt H' a p := by
  obtain ⟨q, v, h1, h2, h3⟩ := h
  have kt : ∀ {b xs}, H b = some (.tup xs) → H' b = some (.tup xs) := fun {b xs} h => s.get (fun z => by subst z; rw [hx] at h; cases h) h
  refine ⟨q, v, kt h1, kt h2, ?_⟩
  cases hs : p.staged with
  | none => rw [hs] at h3; exact h3
  | some ls => rw [hs] at h3; obtain ⟨t, e1, e2⟩ := h3; exact ⟨t, e1, kt e2⟩
def tenNames : List Str := ["c", "cc", "gen", "general", "li", "lib", "libc", "make", "makefile", "zlib"]
def spDrw : Sp := fun vs H Q _ => ∃ (s : Addr) (many st : Int) (k : Nat) (xs : List V), vs = [.ref s, .int many, .int st] ∧ H s = some (.lst xs) ∧ SrcL k xs ∧ k < 2 ^ 30 ∧ 1 ≤ many ∧ many ≤ 10 ∧ 0 < st ∧ st ≤ 100 ∧
  ∀ (p : Addr) (as : List Addr) (ps : List Pk) (ys : List V) (H' : Hp), H p = none → H' p = some (.lst (as.map V.ref)) → Paired (fun a p => RowAt H' a p) as ps → ps.map Pk.name = tenNames.take many.toNat → GoodA ps → H' s = some (.lst ys) → SrcL (k + 1000) ys → SameB s H H' → Q (.ref p) H'
section
variable {J : It} {G : Hp → Prop} {Y : Nat → Hp → V → Hp → Prop}
/-- a comprehension over a list of texts whose test draws -/
theorem lc_draw {K : PySem.W.Frag} {g : TG} {tt : TT} {te : TE} {vs : List Nat} {σ : St} {H1 : Hp} {D l s : Addr} {xs : List Str} {ys0 : List V} {k : Nat} (c : Nat) {Qd : Hp → Prop} (hl : H1 l = some (.lst (xs.map V.str))) (hs0 : H1 s = some (.lst ys0)) (hy0 : SrcL k ys0) (hD : H1 D = none) (nls : l ≠ s) (hx : xs.length ≤ 1000)
    (hs : ∀ i x H ys (Nx : V → Hp → Prop) (Nz : Hp → Prop), i < xs.length → xs[i]? = some x → SameB s H1 H → H s = some (.lst ys) → SrcL (k + c * i) ys → (∀ H4 ys4, SameB s H H4 → H4 s = some (.lst ys4) → SrcL (k + c * i + c) ys4 → Nx (.str x) H4 ∧ Nz H4) →
      g (.str x) (wipe σ vs) H fun σ2 H2 => wipe σ2 vs = wipe σ vs ∧ tt σ2 H2 fun b H3 => if b = true then te σ2 H3 Nx else Nz H3)
    (hd : ∀ H (zs : List Str) ys, zs.Sublist xs → H D = some (.lst (zs.map V.str)) → H s = some (.lst ys) → SrcL (k + c * xs.length) ys → SameB s H1 H → Qd H) :
    ∃ W : Nat → Nat → Hp → Prop, (∃ m, W 0 m (upd H1 D (.lst []))) ∧ ∀ i m H, W i m H →
      ((Itl K l).stop i H ∧ Qd H) ∨ ((Itl K l).go i H ∧ ∃ Nx : Hp → Prop, (∀ H', Nx H' → ∃ m', m' < m ∧ W (i + 1) m' H') ∧ ∀ x H', (Itl K l).yld i H x H' → g x (wipe σ vs) H' fun σ2 H2 => wipe σ2 vs = wipe σ vs ∧ tt σ2 H2 fun b H3 =>
        if b = true then te σ2 H3 fun y H4 => ∃ acc, H4 D = some (.lst acc) ∧ acc.length < sizeLine ∧ Nx (upd H4 D (.lst (acc ++ [y]))) else Nx H3) := by
  have nDs : s ≠ D := ne_of_none hs0 hD
  have nlD : l ≠ D := ne_of_none hl hD
  refine lc_it (walk_list (K := K) (a := l) (xs := xs.map V.str)) (fun i H' => ∃ (zs : List Str) (ys : List V), H' D = some (.lst (zs.map V.str)) ∧ zs.Sublist (xs.take i) ∧ H' s = some (.lst ys) ∧ SrcL (k + c * i) ys ∧ SameB s H1 H')
    ⟨[], ys0, upd_same, List.nil_sublist _, upd_oth nDs hs0, hy0, SameB.wr SameB.refl hD⟩ (fun i H _ ⟨_, _, _, _, _, _, b⟩ => SqL.of (b.get nls hl)) ?_ ?_
  · rintro i y H H' hi ⟨zs, ys, h1, h2, h3, h4, h5⟩ ⟨rfl, hx'⟩
    rw [List.length_map] at hi
    rw [List.getElem?_map] at hx'
    obtain ⟨x, ex, rfl⟩ := Option.map_eq_some_iff.mp hx'
    have tk := take_snoc ex
    have hzl := h2.length_le
    rw [List.length_take] at hzl
    refine hs i x H' ys _ _ hi ex h5 h3 h4 fun H4 ys4 b g1 g2 => ⟨⟨_, b.get nDs.symm h1, by rw [List.length_map, sizeLine_eq]; omega, zs ++ [x], ys4, by rw [upd_same, List.map_append]; rfl, ?_, upd_oth nDs g1, g2.mono (by rw [Nat.mul_succ]; omega), SameB.wr (h5.trans b) hD⟩, zs, ys4, b.get nDs.symm h1, ?_, g1, g2.mono (by rw [Nat.mul_succ]; omega), h5.trans b⟩
    · rw [tk]; exact List.Sublist.append h2 (List.Sublist.refl _)
    · rw [tk]; exact h2.trans (List.sublist_append_left _ _)
  · rintro H ⟨zs, ys, h1, h2, h3, h4, h5⟩
    rw [List.length_map] at h2 h4
    rw [List.take_length] at h2
    exact hd H zs ys h2 h1 h3 h4 h5
end
theorem erase_perm {α : Type} : ∀ {l : List α} {k : Nat} {y : α}, l[k]? = some y → (y :: l.eraseIdx k).Perm l
  | [], k, y, h => by simp at h
  | a :: l, 0, y, h => by
    cases (Option.some.inj h : a = y)
    exact .refl _
  | a :: l, k + 1, y, h => by
    have ih := erase_perm (l := l) (k := k) (y := y) (by simpa using h)
    show (y :: a :: l.eraseIdx k).Perm (a :: l)
    exact (List.Perm.swap a y _).trans (ih.cons a)
section
variable {P : Program} {w : World} {K : PySem.W.Frag} {mg : Str → Option Value} {base : Heap} {ad : Ad}
theorem ok_law_shuffled (T : Txt P K mg ad) : FnOk P w K mg base CX0 2 ad.a_law_shuffled ad.d_law_shuffled ["_law_source_here", "_law_things"] spShuf := by
  refine T.f_law_shuffled.ok sc_law_shuffled (fun vs H Q E h => ?_) (fun cdv A outer s H vs Q E hr h => ?_)
  · obtain ⟨s, l, k, xs, ts, rfl, _⟩ := h; rfl
  · obtain ⟨s, l, k, xs, ts, rfl, hs, hx, hk, hl, nls, hn, q⟩ := h
    refine ⟨_, pss_cons (ps_set (i := 2) sc_law_shuffled.nd rfl (by first | exact Or.inl rfl | exact Or.inr rfl) (pe_callTy (cc_list (K := K)) (by rfl) T.n_list (by decide +kernel) (pa_cons (cv 1) pa_nil)))
      (pss_one (ps_ret (pe_lc (own := [("_law_step", 3)]) (g := gName 3) (by rfl) sc_law_shuffled.nd  (pi_range1 rfl T.n_range (pa_cons (pe_callB (cc_len (K := K)) (by rfl) T.n_len (by decide +kernel) (pa_cons (cv 2) pa_nil)) pa_nil)) (blkOk_by (own := [("_law_step", 3)]) (N := N_law_shuffled) (sc := defScope s_law_shuffled) (by decide +kernel)) (fun _ _ _ _ _ => pg_name (i := 3) sc_law_shuffled.nd rfl (by first | exact Or.inl rfl | exact Or.inr rfl)) (fun _ _ _ _ _ => pts_nil) (fun _ _ _ _ _ => pe_bmK (K := K) PySem.F.plainAttrs_list PySem.F.slot_list_pop PySem.F.type_list_pop (mc_pop) (cv 2) (pa_cons (pe_call (ok_law_draw T) (hr.mono (by decide)) rfl T.m_law_draw T.k_law_draw T.b_law_draw .nil pass0 (pa_cons (cv 0) (pa_cons (pe_callB (cc_len (K := K)) (by rfl) T.n_len (by decide +kernel) (pa_cons (cv 2) pa_nil)) pa_nil))) pa_nil))))), ?_⟩
    refine ⟨_, .inl (SqL.of hl), fun L hL => ?_⟩
    have nLs : s ≠ L := ne_of_none hs hL
    refine ⟨_, .inl (SqL.of upd_same), ?_⟩
    refine ⟨_, rfl, by omega, by omega, fun D hD => ?_⟩
    have nDs : s ≠ D := ne_of_none (upd_new hs hL) hD
    have nDL : L ≠ D := ne_of_none upd_same hD
    have hD0 : H D = none := upd_none hD
    refine lc_it walk_range (fun i H' => ∃ (acc rem ys : List V), H' D = some (.lst acc) ∧ H' L = some (.lst rem) ∧ (acc ++ rem).Perm ts ∧ acc.length = i ∧ H' s = some (.lst ys) ∧ SrcL (k + i) ys ∧ SameB s H H')
      ⟨[], ts, xs, upd_same, upd_oth nDL upd_same, .refl _, rfl, upd_oth nDs (upd_new hs hL), hx, SameB.wr (SameB.wr SameB.refl hL) hD0⟩ (fun _ _ _ _ => trivial) ?_ ?_
    · rintro i x H1 H2 hi ⟨acc, rem, ys, h1, h2, h3, h4, h5, h6, h7⟩ ⟨rfl, rfl⟩
      have hlen := h3.length_eq
      rw [List.length_append, h4] at hlen
      refine ⟨rfl, ?_⟩
      refine ⟨.inl ⟨rfl, _, SqL.of h2⟩, ?_⟩
      refine ⟨_, .inl (SqL.of h2), ?_⟩
      refine ⟨s, _, _, ys, rfl, h5, h6, by omega, by omega, by omega, fun d ys2 hd0 hd1 hy2 => ?_⟩
      obtain ⟨j, rfl⟩ := Int.eq_ofNat_of_zero_le hd0
      have hj : j < rem.length := by omega
      have ej : rem[j]? = some rem[j] := List.getElem?_eq_getElem hj
      refine ⟨rem, j, rem[j], upd_oth nLs.symm h2, rfl, by omega, ej, ?_⟩
      refine ⟨acc, upd_oth nDL.symm (upd_oth nDs.symm h1), by rw [sizeLine_eq]; omega, acc ++ [rem[j]], rem.eraseIdx j, ys2, upd_same, upd_oth nDL upd_same, ?_, by rw [List.length_append, h4]; rfl, upd_oth nDs (upd_oth nLs upd_same), hy2, SameB.wr (SameB.wr h7.ws hL) hD0⟩
      rw [List.append_assoc]
      exact ((erase_perm ej).append_left acc).trans h3
    · rintro H1 ⟨acc, rem, ys, h1, h2, h3, h4, h5, h6, h7⟩
      have hlen := h3.length_eq
      rw [List.length_append, h4] at hlen
      have e : rem = [] := List.length_eq_zero_iff.mp (by omega)
      subst e
      rw [List.append_nil] at h3
      exact q D acc ys H1 h3 hD0 h1 h5 (h6.mono (by omega)) h7
end
end Toy

namespace Toy
open PySem L2
local macro_rules | `(tactic| tm_at "w") => `(tactic| (conv => whnf))
local macro_rules | `(tactic| tm_at "fr") => `(tactic| first | assumption | exact upd_none (by assumption) | exact upd_none (upd_none (by assumption)) | exact upd_none (upd_none (upd_none (by assumption))) | exact upd_none (upd_none (upd_none (upd_none (by assumption)))))
local macro_rules | `(tactic| tm_at "ne") => `(tactic| first | assumption | (apply Ne.symm; assumption) | exact upd_none_ne (by assumption) | exact (upd_none_ne (by assumption)).symm | exact upd_none_ne (upd_none (by assumption)) | exact (upd_none_ne (upd_none (by assumption))).symm | exact upd_none_ne (upd_none (upd_none (by assumption))) | exact (upd_none_ne (upd_none (upd_none (by assumption)))).symm)
local macro_rules | `(tactic| tm_at "heap") => `(tactic| first | assumption | exact upd_same | (refine upd_new ?_ (by tm_at "fr"); tm_at "heap") | (refine upd_oth (by tm_at "ne") ?_; tm_at "heap") | (refine SameB.get (by assumption) (by tm_at "ne") ?_; tm_at "heap") | (refine Same.get (by assumption) ?_; tm_at "heap"))
local macro_rules | `(tactic| tm_at "sq") => `(tactic| first | assumption | exact SqL.of (by tm_at "heap") | exact SqT.of (by tm_at "heap"))
local macro_rules | `(tactic| tm_at "ix") => `(tactic| (conv => whnf); first | refine ⟨_, _, .inl (by tm_at "sq"), rfl, ?_⟩ | refine ⟨_, _, .inr (by tm_at "sq"), rfl, ?_⟩)
local macro_rules | `(tactic| tm_at "sb") => `(tactic| first | assumption | exact SameB.refl | (refine SameB.ws ?_; tm_at "sb") | (refine SameB.wr ?_ (by tm_at "fr"); tm_at "sb") | (refine SameB.trans ?_ (by assumption); tm_at "sb"))
theorem cutV_n (xs : List V) (j : Nat) : cutV xs none (some (j : Int)) = xs.take j := by
  unfold cutV
  rw [HT.sIx_none, HT.sIx_nat, List.drop_zero, Nat.sub_zero]
  by_cases h : j ≤ xs.length
  · rw [Nat.min_eq_left h]
  · rw [Nat.min_eq_right (by omega), List.take_length, List.take_of_length_le (by omega)]
theorem br_st {K : PySem.W.Frag} {b : Bool} {F : VK} {H : Hp} {D : Addr} {zs : List Str} (hD : H D = some (.lst (zs.map V.str))) (q : ∀ (v : V) (o : Option (List Str)) (H' : Hp), Same H H' → StAt H' v o → (∀ l, o = some l → l = zs) → F v H') : br b (rTupC K [V.ref D] H F) (F .non H) :=
  ⟨fun _ => ⟨_, .inl ⟨SqL.of hD, fun t ht => q (.ref t) (some zs) _ (Same.new ht) ⟨t, rfl, upd_same⟩ fun l h => (Option.some.inj h).symm⟩⟩, fun _ => q .non none H (Same.refl _) rfl fun l h => nomatch h⟩
theorem ten_ok : ∀ z ∈ tenNames, NameOk z := by
  have : ∀ z ∈ tenNames, wordB z 12 = true ∧ z.length ≤ 100 := by decide +kernel
  exact this
theorem ten_nd : tenNames.Nodup := by decide +kernel
section
variable {P : Program} {w : World} {K : PySem.W.Frag} {mg : Str → Option Value} {base : Heap} {ad : Ad}
set_option maxHeartbeats 16000000 in
theorem ok_law_drawn_packages (T : Txt P K mg ad) : FnOk P w K mg base CX0 4 ad.a_law_drawn_packages ad.d_law_drawn_packages ["_law_source_here", "_law_many", "_law_staged"] spDrw := by
  refine T.f_law_drawn_packages.ok sc_law_drawn_packages (fun vs H Q E h => ?_) (fun cdv A outer s H vs Q E hr h => ?_)
  · obtain ⟨s, many, st, k, xs, rfl, _⟩ := h; rfl
  · obtain ⟨s, many, st, k, xs, rfl, hs, hx, hk, hm0, hm1, hst0, hst1, q⟩ := h
    refine ⟨_, pss_cons (ps_set (i := 3) sc_law_drawn_packages.nd rfl (by first | exact Or.inl rfl | exact Or.inr rfl) (pe_slice (sc_U (K := K)) (pe_lst (pa_cons pe_str (pa_cons pe_str (pa_cons pe_str (pa_cons pe_str (pa_cons pe_str (pa_cons pe_str (pa_cons pe_str (pa_cons pe_str (pa_cons pe_str (pa_cons pe_str pa_nil))))))))))) po_none (poc (cv 1))))
      (pss_cons (ps_set (i := 4) sc_law_drawn_packages.nd rfl (by first | exact Or.inl rfl | exact Or.inr rfl) (pe_lst pa_nil))
      (pss_cons (ps_for PassesOwn.never rfl (pic_seq (K := K) (cv 3)) (pg_name (i := 5) sc_law_drawn_packages.nd rfl (by first | exact Or.inl rfl | exact Or.inr rfl))
        (pss_cons (ps_setLc (i := 6) (own := [("_law_other", 7)]) (g := gName 7) (by rfl) sc_law_drawn_packages.nd rfl rfl (sw_true rfl rfl rfl (by decide +kernel)) (pic_seq (K := K) (cv 3)) (blkOk_by (own := [("_law_other", 7)]) (N := N_law_drawn_packages) (sc := defScope s_law_drawn_packages) (by decide +kernel)) (fun _ _ _ _ _ => pg_name (i := 7) sc_law_drawn_packages.nd rfl (by first | exact Or.inl rfl | exact Or.inr rfl)) (fun _ _ _ _ _ => pts_one (ct_cmp (oc_eq (K := K) hr.units) (pe_call (ok_law_draw T) (hr.mono (by decide)) rfl T.m_law_draw T.k_law_draw T.b_law_draw .nil pass0 (pa_cons (cv 0) (pa_cons (pe_ix (ic_seq (K := K)) (pe_lst (pa_cons pe_int (pa_cons pe_int (pa_cons pe_int pa_nil)))) (pe_call (ok_law_draw T) (hr.mono (by decide)) rfl T.m_law_draw T.k_law_draw T.b_law_draw .nil pass0 (pa_cons (cv 0) (pa_cons pe_int pa_nil))) (fun _ _ => rfl)) pa_nil))) pe_int (nomark _))) (fun _ _ _ _ _ => cv 7))
        (pss_cons (ps_set (i := 6) sc_law_drawn_packages.nd rfl (by first | exact Or.inl rfl | exact Or.inr rfl) (pe_call (ok_law_shuffled T) (hr.mono (by decide)) rfl T.m_law_shuffled T.k_law_shuffled T.b_law_shuffled .nil pass0 (pa_cons (cv 0) (pa_cons (cv 6) pa_nil))))
        (pss_cons (ps_setLc (i := 8) (own := [("_law_need", 9)]) (g := gName 9) (by rfl) sc_law_drawn_packages.nd rfl rfl (sw_true rfl rfl rfl (by decide +kernel)) (pic_seq (K := K) (cv 6)) (blkOk_by (own := [("_law_need", 9)]) (N := N_law_drawn_packages) (sc := defScope s_law_drawn_packages) (by decide +kernel)) (fun _ _ _ _ _ => pg_name (i := 9) sc_law_drawn_packages.nd rfl (by first | exact Or.inl rfl | exact Or.inr rfl)) (fun _ _ _ _ _ => pts_one (PW.pt (cw_and (ct_cmp (oc_eq (K := K) hr.units) (pe_call (ok_law_draw T) (hr.mono (by decide)) rfl T.m_law_draw T.k_law_draw T.b_law_draw .nil pass0 (pa_cons (cv 0) (pa_cons pe_int pa_nil))) pe_int (nomark _)) (pw_and1 (PW.pt (cw_or (ct_cmp (oc_ne (K := K) hr.units) (cv 9) (cv 5) (nomark _)) (pw_or1 (ct_cmp (oc_eq (K := K) hr.units) (pe_call (ok_law_draw T) (hr.mono (by decide)) rfl T.m_law_draw T.k_law_draw T.b_law_draw .nil pass0 (pa_cons (cv 0) (pa_cons pe_int pa_nil))) pe_int (nomark _))))))))) (fun _ _ _ _ _ => cv 9))
        (pss_one (ps_expr (pe_bm PySem.F.plainAttrs_list PySem.F.slot_list_append PySem.F.type_list_append (mc_append) (cv 4) (pa_cons (pe_tup (pa_cons (cv 5) (pa_cons (pe_callTy (cc_tuple (K := K)) (by rfl) T.n_tuple (by decide +kernel) (pa_cons (cv 6) pa_nil)) (pa_cons (ce_if (ct_cmp oc_gt (pe_call (ok_law_draw T) (hr.mono (by decide)) rfl T.m_law_draw T.k_law_draw T.b_law_draw .nil pass0 (pa_cons (cv 0) (pa_cons (cv 2) pa_nil))) pe_int (nomark _)) (pe_callTy (cc_tuple (K := K)) (by rfl) T.n_tuple (by decide +kernel) (pa_cons (cv 8) pa_nil)) pe_non) pa_nil)))) pa_nil))))))))
      (pss_one (ps_ret (cv 4))))), ?_⟩
    obtain ⟨n, rfl⟩ := Int.eq_ofNat_of_zero_le (show 0 ≤ many by omega)
    refine ⟨by show 10 ≤ sizeLine; decide, fun e he => ?_⟩
    refine .inl ⟨e, _, rfl, SqL.of upd_same, fun nl hnl => ?_⟩
    rw [show ([V.str "c", V.str "cc", V.str "gen", V.str "general", V.str "li", V.str "lib", V.str "libc", V.str "make", V.str "makefile", V.str "zlib"] : List V) = tenNames.map V.str from rfl, cutV_n, ← List.map_take] at *
    refine ⟨Nat.zero_le _, fun fd hfd => ?_⟩
    generalize hnms : tenNames.take n = nms at *
    have s0 : Same H (upd (upd (upd H e (.lst (tenNames.map V.str))) nl (.lst (nms.map V.str))) fd (.lst [])) := ((Same.new he).trans (Same.new hnl)).trans (Same.new hfd)
    have gN : (upd (upd (upd H e (.lst (tenNames.map V.str))) nl (.lst (nms.map V.str))) fd (.lst [])) nl = some (.lst (nms.map V.str)) := upd_new upd_same hfd
    have gF : (upd (upd (upd H e (.lst (tenNames.map V.str))) nl (.lst (nms.map V.str))) fd (.lst [])) fd = some (.lst []) := upd_same
    have hfn : H fd = none := upd_none (upd_none hfd)
    have nNF : nl ≠ fd := ne_of_none upd_same hfd
    have nNs : nl ≠ s := (ne_of_none (upd_new hs he) hnl).symm
    have nFs : fd ≠ s := (ne_of_none hs hfn).symm
    generalize upd (upd (upd H e (HO.lst (tenNames.map V.str))) nl (HO.lst (nms.map V.str))) fd (HO.lst []) = G0 at s0 gN gF ⊢
    have gs0 := s0 _ _ hs
    clear he hnl hfd
    have hnl10 : nms.length ≤ 10 := by rw [← hnms, List.length_take]; exact Nat.min_le_right _ _
    have nok : ∀ z ∈ nms, NameOk z := fun z hz => ten_ok z (List.mem_of_mem_take (hnms ▸ hz))
    have nnd : nms.Nodup := hnms ▸ ten_nd.sublist (List.take_sublist _ _)
    refine .inl ⟨nl, rfl, ⟨_, SqL.of gN⟩, ?_⟩
    refine for_it (n := nms.length) (walk_list (K := K) (a := nl) (xs := nms.map V.str) |> fun w => by rw [List.length_map] at w; exact w) (fun i σ H' => ∃ (as : List Addr) (ps : List Pk) (ys : List V) (u5 u6 u7 u8 u9 : Option V), σ = [some (.ref s), some (.int (n : Int)), some (.int st), some (.ref nl), some (.ref fd), u5, u6, u7, u8, u9] ∧
        H' nl = some (.lst (nms.map V.str)) ∧ H' fd = some (.lst (as.map V.ref)) ∧ Paired (fun a p => RowAt H' a p) as ps ∧ ps.map Pk.name = nms.take i ∧ (∀ p ∈ ps, (∀ m ∈ p.needs, m ∈ nms) ∧ (∀ l, p.staged = some l → ∀ m ∈ l, m ∈ p.needs) ∧ p.needs.length ≤ 10 ∧ ∀ l, p.staged = some l → l.length ≤ 10) ∧ H' s = some (.lst ys) ∧ SrcL (k + 100 * i) ys ∧ SameB s H H')
      ⟨[], [], xs, _, _, _, _, _, rfl, gN, gF, .nil, rfl, fun _ h => (nomatch h), gs0, hx, SameB.of s0⟩ (fun i σ H' _ ⟨_, _, _, _, _, _, _, _, _, g, _⟩ => SqL.of g) ?_ ?_
    · rintro i y σ H1x H1 hi ⟨bs, qps, ys, u5, u6, u7, u8, u9, rfl, g1, g2, g3, g4, g5, g6, g7, g8⟩ ⟨rfl, hy⟩
      rw [List.getElem?_map] at hy
      obtain ⟨nm, en, rfl⟩ := Option.map_eq_some_iff.mp hy
      have hbl : bs.length ≤ 10 := by
        have e1 := prd_len g3
        have e2 : qps.length = (nms.take i).length := by rw [← g4, List.length_map]
        rw [List.length_take] at e2
        omega
      -- the needs
      refine .inl ⟨nl, rfl, ⟨_, SqL.of g1⟩, fun D hD => ?_⟩
      refine lc_draw (K := K) 2 g1 g6 g7 hD nNs (by omega) ?_ ?_
      · rintro j x H2 ys2 Nx Nz hj ex b2 z2 hy2 kk
        refine ⟨rfl, ?_⟩
        refine ⟨by show 3 ≤ sizeLine; decide, fun e1 he1 => ?_⟩
        have nse : s ≠ e1 := ne_of_none z2 he1
        refine ⟨s, _, _, ys2, rfl, upd_oth nse z2, hy2, by omega, by decide, by decide, fun d ys3 h0 h1 hy3 => ?_⟩
        obtain ⟨b, hbm, hba⟩ := atI_ints (ls := [3, 4, 6]) h0 h1
        refine ⟨_, _, .inl (SqL.of (upd_oth nse.symm upd_same)), hba, ?_⟩
        have hb : 0 < b ∧ b < 2 ^ 200 := by
          have : ∀ z ∈ ([3, 4, 6] : List Int), 0 < z ∧ z < 2 ^ 200 := by decide
          exact this b hbm
        refine ⟨s, _, _, ys3, rfl, upd_same, hy3, by omega, hb.1, hb.2, fun d2 ys4 _ _ hy4 => ?_⟩
        have kq := kk (upd (upd (upd H2 e1 (.lst [.int 3, .int 4, .int 6])) s (.lst ys3)) s (.lst ys4)) ys4 (SameB.ws (SameB.ws (SameB.new he1))) upd_same (hy4.mono (by omega))
        show if decide (d2 = 0) = true then Nx (V.str x) _ else Nz _
        split
        · exact kq.1
        · exact kq.2
      intro H2 zs ys2 sub gD z2 hy2 b2
      have nDs : D ≠ s := (ne_of_none g6 hD).symm
      have hzl := sub.length_le
      refine ⟨s, D, _, ys2, _, rfl, z2, hy2, by omega, gD, nDs, by rw [List.length_map]; omega, fun p us ys3 H3 pm hp gp z3 hy3 b3 => ?_⟩
      obtain ⟨ms, pm2, rfl⟩ := perm_lift pm zs rfl
      rw [List.length_map] at hy3
      have hml : ms.length = zs.length := pm2.length_eq
      have nps : p ≠ s := (ne_of_none z2 hp).symm
      -- the part
      refine .inl ⟨p, rfl, ⟨_, SqL.of gp⟩, fun D2 hD2 => ?_⟩
      refine lc_draw (K := K) 2 gp z3 hy3 hD2 nps (by omega) ?_ ?_
      · rintro j x H4 ys4 Nx Nz hj ex b4 z4 hy4 kk
        refine ⟨rfl, ?_⟩
        refine ⟨s, _, _, ys4, rfl, z4, hy4, by omega, by decide, by decide, fun d ys5 _ _ hy5 => ?_⟩
        refine ⟨fun h => ?_, fun h => ?_⟩
        · refine ⟨fun h2 => ?_, fun h2 => ?_⟩
          · exact (kk _ ys5 SameB.at upd_same (hy5.mono (by omega))).1
          · refine ⟨s, _, _, ys5, rfl, upd_same, hy5, by omega, by decide, by decide, fun d2 ys6 _ _ hy6 => ?_⟩
            have kq := kk (upd (upd H4 s (.lst ys5)) s (.lst ys6)) ys6 (SameB.ws SameB.at) upd_same (hy6.mono (by omega))
            show if decide (d2 = 0) = true then Nx (V.str x) _ else Nz _
            split
            · exact kq.1
            · exact kq.2
        · exact (kk _ ys5 SameB.at upd_same (hy5.mono (by omega))).2
      intro H4 qs ys4 sub2 gD2 z4 hy4 b4
      have hql := sub2.length_le
      have bF : ∀ {x : Addr} {o : HO}, x ≠ s → H1 x = some o → H4 x = some o := fun hx ho => b4.get hx (b3.get hx (b2.get hx ho))
      have gF4 := bF nFs g2
      have gN4 := bF nNs g1
      have gp4 := b4.get nps gp
      -- the row
      refine ⟨.inl ⟨rfl, _, SqL.of gF4⟩, ?_⟩
      refine ⟨_, .inl ⟨SqL.of gp4, fun qt hqt => ?_⟩⟩
      have nqs : s ≠ qt := ne_of_none z4 hqt
      refine ⟨s, _, _, ys4, rfl, upd_oth nqs z4, hy4, by omega, hst0, by omega, fun d ys5 _ _ hy5 => ?_⟩
      have nD2s : D2 ≠ s := (ne_of_none z3 hD2).symm
      have nD2q : D2 ≠ qt := ne_of_none gD2 hqt
      have s5 : SameB s H4 (upd (upd H4 qt (.tup (ms.map V.str))) s (.lst ys5)) := SameB.ws (SameB.new hqt)
      have gq5 : (upd (upd H4 qt (.tup (ms.map V.str))) s (.lst ys5)) qt = some (.tup (ms.map V.str)) := upd_oth nqs.symm upd_same
      have gs5 : (upd (upd H4 qt (.tup (ms.map V.str))) s (.lst ys5)) s = some (.lst ys5) := upd_same
      have gD5 := s5.get nD2s gD2
      have gF5 := s5.get nFs gF4
      have gN5 := s5.get nNs gN4
      have b5 : SameB s H1 (upd (upd H4 qt (.tup (ms.map V.str))) s (.lst ys5)) := (b2.trans (b3.trans b4)).trans s5
      generalize upd (upd H4 qt (HO.tup (ms.map V.str))) s (HO.lst ys5) = G5 at s5 gq5 gs5 gD5 gF5 gN5 b5 ⊢
      have fin : ∀ (v : V) (o : Option (List Str)) (H6 : Hp) (ta : Addr) (w7 w9 : Option V), Same G5 H6 → H6 ta = some (.tup [.str nm, .ref qt, v]) → StAt H6 v o → (∀ l, o = some l → l = qs) →
          ∃ (as : List Addr) (ps : List Pk) (ys : List V) (u5 u6 u7 u8 u9 : Option V), [some (V.ref s), some (.int (n : Int)), some (.int st), some (.ref nl), some (.ref fd), some (.str nm), some (.ref p), w7, some (.ref D2), w9] = [some (.ref s), some (.int (n : Int)), some (.int st), some (.ref nl), some (.ref fd), u5, u6, u7, u8, u9] ∧
            (upd H6 fd (.lst (bs.map V.ref ++ [.ref ta]))) nl = some (.lst (nms.map V.str)) ∧ (upd H6 fd (.lst (bs.map V.ref ++ [.ref ta]))) fd = some (.lst (as.map V.ref)) ∧ Paired (fun a p => RowAt (upd H6 fd (.lst (bs.map V.ref ++ [.ref ta]))) a p) as ps ∧ ps.map Pk.name = nms.take (i + 1) ∧ (∀ p ∈ ps, (∀ m ∈ p.needs, m ∈ nms) ∧ (∀ l, p.staged = some l → ∀ m ∈ l, m ∈ p.needs) ∧ p.needs.length ≤ 10 ∧ ∀ l, p.staged = some l → l.length ≤ 10) ∧ (upd H6 fd (.lst (bs.map V.ref ++ [.ref ta]))) s = some (.lst ys) ∧ SrcL (k + 100 * (i + 1)) ys ∧ SameB s H (upd H6 fd (.lst (bs.map V.ref ++ [.ref ta]))) := by
        intro v o H6 ta w7 w9 s6 ht hv ho
        have gF6 := s6 _ _ gF5
        have up : SameB fd H6 (upd H6 fd (.lst (bs.map V.ref ++ [.ref ta]))) := SameB.at
        have rows : Paired (fun a p => RowAt H6 a p) bs qps := prd_mono (fun _ _ h => RowAt.same h s6) (prd_mono (fun _ _ h => RowAt.sameL g6 b5 h) g3)
        refine ⟨bs ++ [ta], qps ++ [⟨nm, ms, o⟩], ys5, _, _, _, _, _, rfl, up.get nNF (s6 _ _ gN5), by rw [upd_same, List.map_append]; rfl, prd_app (prd_mono (fun _ _ h => RowAt.sameL gF6 up h) rows) (.cons (RowAt.sameL gF6 up ⟨qt, v, ht, s6 _ _ gq5, hv⟩) .nil), ?_, fun p hp => ?_, up.get nFs.symm (s6 _ _ gs5), hy5.mono (by omega), ?_⟩
        · rw [List.map_append, g4, take_snoc en]; rfl
        · rcases List.mem_append.mp hp with z | z
          · exact g5 p z
          · rw [List.mem_singleton.mp z]
            refine ⟨fun m hm => sub.subset (pm2.mem_iff.mp hm), fun l hl m hm => ?_, by show ms.length ≤ 10; omega, fun l hl => ?_⟩
            · have := ho l hl
              subst this
              exact sub2.subset hm
            · have := ho l hl
              subst this
              omega
        · exact SameB.wr ((g8.trans b5).trans (SameB.of s6)) hfn
      refine ⟨fun _ => ?_, fun _ => ?_⟩
      · refine ⟨_, .inl ⟨SqL.of gD5, fun t6 ht6 => ?_⟩⟩
        refine ⟨by show 3 ≤ sizeLine; decide, fun ta hta => ?_⟩
        have s6 : Same G5 (upd (upd G5 t6 (.tup (qs.map V.str))) ta (.tup [.str nm, .ref qt, .ref t6])) := (Same.new ht6).trans (Same.new hta)
        refine ⟨_, s6 _ _ gF5, by rw [List.length_map, sizeLine_eq]; omega, ?_⟩
        exact fin (.ref t6) (some qs) _ ta _ _ s6 upd_same ⟨t6, rfl, upd_new upd_same hta⟩ fun l h => (Option.some.inj h).symm
      · refine ⟨by show 3 ≤ sizeLine; decide, fun ta hta => ?_⟩
        have s6 : Same G5 (upd G5 ta (.tup [.str nm, .ref qt, .non])) := Same.new hta
        refine ⟨_, s6 _ _ gF5, by rw [List.length_map, sizeLine_eq]; omega, ?_⟩
        exact fin .non none _ ta _ _ s6 upd_same rfl fun l h => nomatch h
    · rintro σ H1 ⟨as, ps, ys, u5, u6, u7, u8, u9, rfl, g1, g2, g3, g4, g5, g6, g7, g8⟩
      rw [List.take_length] at g4
      have hpn : ps.length = nms.length := by rw [← List.length_map (f := Pk.name), g4]
      refine q fd as ps ys H1 hfn g2 g3 (by rw [g4, ← hnms]; rfl) ⟨by rw [g4]; exact nnd, fun p hp => ?_⟩ g6 (g7.mono (by omega)) g8
      obtain ⟨e1, e2, e3, e4⟩ := g5 p hp
      have hpm : p.name ∈ nms := g4 ▸ List.mem_map_of_mem hp
      exact ⟨fun m hm => g4 ▸ e1 m hm, e2, (nok _ hpm).2, by omega, fun l hl => by have := e4 l hl; omega⟩
end
end Toy

namespace Toy
open PySem L2
local macro_rules | `(tactic| tm_at "w") => `(tactic| (conv => whnf))
local macro_rules | `(tactic| tm_at "fr") => `(tactic| first | assumption | exact upd_none (by assumption) | exact upd_none (upd_none (by assumption)) | exact upd_none (upd_none (upd_none (by assumption))) | exact upd_none (upd_none (upd_none (upd_none (by assumption)))))
local macro_rules | `(tactic| tm_at "ne") => `(tactic| first | assumption | (apply Ne.symm; assumption) | exact upd_none_ne (by assumption) | exact (upd_none_ne (by assumption)).symm | exact upd_none_ne (upd_none (by assumption)) | exact (upd_none_ne (upd_none (by assumption))).symm | exact upd_none_ne (upd_none (upd_none (by assumption))) | exact (upd_none_ne (upd_none (upd_none (by assumption)))).symm)
local macro_rules | `(tactic| tm_at "heap") => `(tactic| first | assumption | exact upd_same | (refine upd_new ?_ (by tm_at "fr"); tm_at "heap") | (refine upd_oth (by tm_at "ne") ?_; tm_at "heap") | (refine SameB.get (by assumption) (by tm_at "ne") ?_; tm_at "heap") | (refine Same.get (by assumption) ?_; tm_at "heap"))
local macro_rules | `(tactic| tm_at "sq") => `(tactic| first | assumption | exact SqL.of (by tm_at "heap") | exact SqT.of (by tm_at "heap"))
local macro_rules | `(tactic| tm_at "ix") => `(tactic| (conv => whnf); first | refine ⟨_, _, .inl (by tm_at "sq"), rfl, ?_⟩ | refine ⟨_, _, .inr (by tm_at "sq"), rfl, ?_⟩)
local macro_rules | `(tactic| tm_at "sb") => `(tactic| first | assumption | exact SameB.refl | (refine SameB.ws ?_; tm_at "sb") | (refine SameB.wr ?_ (by tm_at "fr"); tm_at "sb") | (refine SameB.trans ?_ (by assumption); tm_at "sb"))
def spMd (ad : Ad) : Sp := fun vs H Q _ => ∃ (l : Addr) (as : List Addr) (ps : List Pk), vs = [.ref l] ∧ H l = some (.lst (as.map V.ref)) ∧ Paired (fun a p => RowAt H a p) as ps ∧ GoodA ps ∧ ps.length < 60 ∧ (∀ p ∈ ps, NameOk p.name) ∧ ∀ x H', Same H H' → ArAt ad H' x ps → Q (.ref x) H'
section
variable {P : Program} {w : World} {K : PySem.W.Frag} {mg : Str → Option Value} {base : Heap} {ad : Ad}
theorem ok_law_made_archive (T : Txt P K mg ad) : FnOk P w K mg base CX0 12 ad.a_law_made_archive ad.d_law_made_archive ["_law_rows"] (spMd ad) := by
  refine T.f_law_made_archive.ok sc_law_made_archive (fun vs H Q E h => ?_) (fun cdv A outer s H vs Q E hr h => ?_)
  · obtain ⟨l, as, ps, rfl, _⟩ := h; rfl
  · obtain ⟨l, as, ps, rfl, hl, hrw, ga, h60, nok, q⟩ := h
    refine ⟨_, pss_one (ps_ret (pe_cmS (pe_glob (v := .ref ad.c_Archive) rfl T.mg_Archive rfl) T.cr_Archive T.cm_Archive_of (FnOk.r (ok_Archive_of T) T.b_Archive_of) (hr.mono (by decide)) (E := fun _ => E0) (fun σ => passLS σ) (pa_cons (pe_callTy (cc_tuple (K := K)) (by rfl) T.n_tuple (by decide +kernel) (pa_cons (pe_lc (own := [("_law_name", 1), ("_law_needs", 2), ("_law_part", 3)]) (g := gTup K 3 (gCons (gName 1) (gCons (gName 2) (gCons (gName 3) (gNil))))) (by rfl) sc_law_made_archive.nd  (pic_seq (K := K) (cv 0)) (blkOk_by (own := [("_law_name", 1), ("_law_needs", 2), ("_law_part", 3)]) (N := N_law_made_archive) (sc := defScope s_law_made_archive) (by decide +kernel)) (fun _ _ _ _ _ => pg_tup rfl (pgs_cons (pg_name (i := 1) sc_law_made_archive.nd rfl (by first | exact Or.inl rfl | exact Or.inr rfl)) (pgs_cons (pg_name (i := 2) sc_law_made_archive.nd rfl (by first | exact Or.inl rfl | exact Or.inr rfl)) (pgs_cons (pg_name (i := 3) sc_law_made_archive.nd rfl (by first | exact Or.inl rfl | exact Or.inr rfl)) pgs_nil)))) (fun _ _ _ _ _ => pts_nil) (fun _ _ _ _ _ => pe_make T.mk_Package (ok_Package_XinitX T) (hr.mono (by decide)) rfl T.mg_Package T.b_Package_XinitX .nil pass0 (pa_cons (cv 1) (pa_cons (cv 2) (pa_cons (cv 3) pa_nil))))) pa_nil)) pa_nil))), ?_⟩
    have hlen : as.length = ps.length := prd_len hrw
    refine ⟨rfl, ?_⟩
    refine .inl ⟨l, rfl, ⟨_, SqL.of hl⟩, fun D hD => ?_⟩
    refine lc_fl (walk_list (K := K) (a := l) (xs := as.map V.ref)) (fun _ => true) (fun y (p : Pk) H' => ∃ b, y = .ref b ∧ PkAt ad H' b p) (xs := ps) (by rw [List.length_map, hlen]) (fun y c H3 H4 acc hD3 s3 ⟨b, z1, z2⟩ => ⟨b, z1, PkAt.sameO hD3 (fun _ _ _ _ z => nomatch z) (fun _ z => nomatch z) s3 z2⟩) hD (by rw [List.length_map, hlen]; omega) (fun H3 s3 => SqL.of (s3 _ _ hl)) ?_ ?_
    · rintro j p y H3 H4 Nx Nz ep s3 ⟨rfl, hy⟩ k1 _
      rw [List.getElem?_map] at hy
      obtain ⟨t, et, rfl⟩ := Option.map_eq_some_iff.mp hy
      obtain ⟨p', ep', hp'⟩ := prd_get (prd_mono (fun _ _ h => RowAt.same h s3) hrw) et
      rw [ep] at ep'
      cases ep'
      obtain ⟨qn, v, z1, z2, z3⟩ := hp'
      refine ⟨t, _, rfl, SqT.of z1, rfl, ?_⟩
      refine ⟨_, _, rfl, _, _, rfl, _, _, rfl, rfl, rfl, ?_⟩
      intro x dx hx hdx _
      have s0 := mkn_same (o1 := .own x) (o2 := .ins ad.c_Package dx []) hx hdx
      refine ⟨x, dx, qn, v, p, rfl, upd_same, s0 _ _ z2, z3.same s0, nok p (List.mem_of_getElem? ep), fun H6 s6 h6 => ⟨rfl, ?_⟩⟩
      have s8 := mk_same hx hdx s6
      exact k1 rfl _ _ s8 ⟨x, rfl, dx, qn, v, h6, s8 _ _ z2, z3.same s8⟩
    intro H3 yv pr s3 hD3
    obtain ⟨bs, rfl, pr'⟩ := refsP pr
    rw [List.filter_eq_self.mpr (fun _ _ => rfl)] at pr'
    refine ⟨_, .inl ⟨SqL.of hD3, fun t ht => ?_⟩⟩
    exact ⟨t, bs, ps, rfl, upd_same, PksAt.same pr' (Same.new ht), ga, h60, fun x H' s4 ha => q x H' (s3.trans ((Same.new ht).trans s4)) ha⟩
end
end Toy

namespace Toy
open PySem L2
local macro_rules | `(tactic| tm_at "w") => `(tactic| (conv => whnf))
local macro_rules | `(tactic| tm_at "fr") => `(tactic| first | assumption | exact upd_none (by assumption) | exact upd_none (upd_none (by assumption)) | exact upd_none (upd_none (upd_none (by assumption))) | exact upd_none (upd_none (upd_none (upd_none (by assumption)))))
local macro_rules | `(tactic| tm_at "ne") => `(tactic| first | assumption | (apply Ne.symm; assumption) | exact upd_none_ne (by assumption) | exact (upd_none_ne (by assumption)).symm | exact upd_none_ne (upd_none (by assumption)) | exact (upd_none_ne (upd_none (by assumption))).symm | exact upd_none_ne (upd_none (upd_none (by assumption))) | exact (upd_none_ne (upd_none (upd_none (by assumption)))).symm)
local macro_rules | `(tactic| tm_at "heap") => `(tactic| first | assumption | exact upd_same | (refine upd_new ?_ (by tm_at "fr"); tm_at "heap") | (refine upd_oth (by tm_at "ne") ?_; tm_at "heap") | (refine SameB.get (by assumption) (by tm_at "ne") ?_; tm_at "heap") | (refine Same.get (by assumption) ?_; tm_at "heap"))
local macro_rules | `(tactic| tm_at "sq") => `(tactic| first | assumption | exact SqL.of (by tm_at "heap") | exact SqT.of (by tm_at "heap"))
local macro_rules | `(tactic| tm_at "ix") => `(tactic| (conv => whnf); first | refine ⟨_, _, .inl (by tm_at "sq"), rfl, ?_⟩ | refine ⟨_, _, .inr (by tm_at "sq"), rfl, ?_⟩)
local macro_rules | `(tactic| tm_at "sb") => `(tactic| first | assumption | exact SameB.refl | (refine SameB.ws ?_; tm_at "sb") | (refine SameB.wr ?_ (by tm_at "fr"); tm_at "sb") | (refine SameB.trans ?_ (by assumption); tm_at "sb"))
/-! the law -/
theorem mergeK_kv {α : Type} {f : α → Str} {v : α → V} : ∀ {ps acc : List α}, ((acc ++ ps).map f).Nodup → mergeK (kvOf f v acc) (kvOf f v ps) = kvOf f v (acc ++ ps)
  | [], acc, _ => by rw [List.append_nil]; rfl
  | p :: t, acc, h => by
    have hn : f p ∉ acc.map f := by
      rw [List.map_append, List.nodup_append] at h
      exact fun z => h.2.2 _ z _ List.mem_cons_self rfl
    show mergeK (putK (kvOf f v acc) (Sum.inr (f p)) (v p)) (kvOf f v t) = _
    rw [putK_kv hn, mergeK_kv (by rw [List.append_assoc]; exact h), List.append_assoc]
    rfl
theorem set_uniq {ys zs : List Str} (n1 : ys.Nodup) (s1 : PyProof.Rows.sortedS ys = true) (n2 : zs.Nodup) (s2 : PyProof.Rows.sortedS zs = true) (h : ∀ k, k ∈ ys ↔ k ∈ zs) : ys = zs :=
  sortedS_uniq ((List.perm_ext_iff_of_nodup n1 n2).mpr h) s1 s2
theorem Aff.uniq {ps qs : List Pk} {ns ms ys zs : List Str} (A : Aff ps ns ys) (B : Aff qs ms zs) (hp : ∀ p, p ∈ ps ↔ p ∈ qs) (h1 : ∀ n ∈ ns, n ∈ zs) (h2 : ∀ n ∈ ms, n ∈ ys) : ys = zs :=
  set_uniq A.nd A.srt B.nd B.srt fun k => ⟨fun hk => A.least (· ∈ zs) h1 (fun p hpp hm => B.cl p ((hp p).mp hpp) hm) k hk, fun hk => B.least (· ∈ ys) h2 (fun p hpp hm => A.cl p ((hp p).mpr hpp) hm) k hk⟩
/-- an affected one is one of the names, or needs one -/
theorem Aff.why {ps : List Pk} {ns ys : List Str} (A : Aff ps ns ys) {y : Str} (hy : y ∈ ys) : y ∈ ns ∨ ∃ p ∈ ps, p.name = y ∧ ∃ m ∈ p.needs, m ∈ ys := by
  have := A.least (fun y => y ∈ ys ∧ (y ∈ ns ∨ ∃ p ∈ ps, p.name = y ∧ ∃ m ∈ p.needs, m ∈ ys)) (fun n h => ⟨A.inc n h, .inl h⟩) (fun p hp ⟨m, m1, m2⟩ => ⟨A.cl p hp ⟨m, m1, m2.1⟩, .inr ⟨p, hp, rfl, m, m1, m2.1⟩⟩) y hy
  exact this.2
/-- the union of what each name affects -/
theorem Aff.union {ps : List Pk} {ns ys us : List Str} (A : Aff ps ns ys) (h : ∀ u, u ∈ us ↔ ∃ n ∈ ns, ∃ zs, Aff ps [n] zs ∧ u ∈ zs) (hex : ∀ n ∈ ns, ∃ zs, Aff ps [n] zs) (k : Str) : k ∈ us ↔ k ∈ ys := by
  constructor
  · intro hk
    obtain ⟨n, hn, zs, B, hz⟩ := (h k).mp hk
    exact B.least (· ∈ ys) (fun m hm => by rw [List.mem_singleton.mp hm]; exact A.inc n hn) A.cl k hz
  · intro hk
    refine (h k).mpr (A.least (fun k => ∃ n ∈ ns, ∃ zs, Aff ps [n] zs ∧ k ∈ zs) (fun n hn => ?_) (fun p hp ⟨m, m1, n, hn, zs, B, hz⟩ => ⟨n, hn, zs, B, B.cl p hp ⟨m, m1, hz⟩⟩) k hk)
    obtain ⟨zs, B⟩ := hex n hn
    exact ⟨n, hn, zs, B, B.inc n List.mem_cons_self⟩
/-- a round of following needs -/
structure Rd46 (ps : List Pk) (ns ys rs : List Str) (r : Nat) : Prop where
  nd : rs.Nodup
  srt : PyProof.Rows.sortedS rs = true
  inc : ∀ n ∈ ns, n ∈ rs
  sub : ∀ y ∈ rs, y ∈ ys
  way : Cl ps (· ∈ rs) ∨ r ≤ rs.length
theorem Rd46.step {ps : List Pk} {ns ys rs hs qs : List Str} {r : Nat} (A : Aff ps ns ys) (R : Rd46 ps ns ys rs r) (hh : ∀ h, h ∈ hs ↔ ∃ p ∈ ps, p.name = h ∧ ∃ m ∈ p.needs, m ∈ rs) (nq : qs.Nodup) (sq : PyProof.Rows.sortedS qs = true) (hq : ∀ k, k ∈ qs ↔ k ∈ rs ++ hs) : Rd46 ps ns ys qs (r + 1) := by
  have h1 : ∀ k ∈ rs, k ∈ qs := fun k hk => (hq k).mpr (List.mem_append_left _ hk)
  refine ⟨nq, sq, fun n hn => h1 n (R.inc n hn), fun y hy => ?_, ?_⟩
  · rcases List.mem_append.mp ((hq y).mp hy) with z | z
    · exact R.sub y z
    · obtain ⟨p, hp, rfl, m, m1, m2⟩ := (hh y).mp z
      exact A.cl p hp ⟨m, m1, R.sub m m2⟩
  · by_cases hc : Cl ps (· ∈ rs)
    · left
      have h2 : ∀ k ∈ qs, k ∈ rs := fun k hk => by
        rcases List.mem_append.mp ((hq k).mp hk) with z | z
        · exact z
        · obtain ⟨p, hp, rfl, hm⟩ := (hh k).mp z
          exact hc p hp hm
      exact fun p hp ⟨m, m1, m2⟩ => h1 _ (hc p hp ⟨m, m1, h2 m m2⟩)
    · right
      have hr := R.way.resolve_left hc
      have : ∃ x, x ∈ qs ∧ x ∉ rs := Classical.byContradiction fun hno => hc fun p hp hm => Classical.byContradiction fun hx => hno ⟨p.name, (hq _).mpr (List.mem_append_right _ ((hh _).mpr ⟨p, hp, rfl, hm⟩)), hx⟩
      obtain ⟨x, x1, x2⟩ := this
      have := nd_le (l := x :: rs) (m := qs) (List.nodup_cons.mpr ⟨x2, R.nd⟩) fun k hk => by
        rcases List.mem_cons.mp hk with z | z
        · rw [z]; exact x1
        · exact h1 k z
      have : rs.length + 1 ≤ qs.length := this
      omega
theorem Rd46.done {ps : List Pk} {ns ys rs : List Str} {r : Nat} (A : Aff ps ns ys) (R : Rd46 ps ns ys rs r) (hr : ps.length < r) : rs = ys := by
  have hl := nd_le (l := rs) (m := ps.map Pk.name) R.nd fun y hy => A.sub y (R.sub y hy)
  rw [List.length_map] at hl
  have hc := R.way.resolve_right (by omega)
  exact set_uniq R.nd R.srt A.nd A.srt fun k => ⟨R.sub k, fun hk => A.least (· ∈ rs) R.inc hc k hk⟩
end Toy

namespace Toy
open PySem L2
local macro_rules | `(tactic| tm_at "w") => `(tactic| (conv => whnf))
local macro_rules | `(tactic| tm_at "fr") => `(tactic| first | assumption | exact upd_none (by assumption) | exact upd_none (upd_none (by assumption)) | exact upd_none (upd_none (upd_none (by assumption))) | exact upd_none (upd_none (upd_none (upd_none (by assumption)))))
local macro_rules | `(tactic| tm_at "ne") => `(tactic| first | assumption | (apply Ne.symm; assumption) | exact upd_none_ne (by assumption) | exact (upd_none_ne (by assumption)).symm | exact upd_none_ne (upd_none (by assumption)) | exact (upd_none_ne (upd_none (by assumption))).symm | exact upd_none_ne (upd_none (upd_none (by assumption))) | exact (upd_none_ne (upd_none (upd_none (by assumption)))).symm)
local macro_rules | `(tactic| tm_at "heap") => `(tactic| first | assumption | exact upd_same | (refine upd_new ?_ (by tm_at "fr"); tm_at "heap") | (refine upd_oth (by tm_at "ne") ?_; tm_at "heap") | (refine SameB.get (by assumption) (by tm_at "ne") ?_; tm_at "heap") | (refine Same.get (by assumption) ?_; tm_at "heap"))
local macro_rules | `(tactic| tm_at "sq") => `(tactic| first | assumption | exact SqL.of (by tm_at "heap") | exact SqT.of (by tm_at "heap"))
local macro_rules | `(tactic| tm_at "ix") => `(tactic| (conv => whnf); first | refine ⟨_, _, .inl (by tm_at "sq"), rfl, ?_⟩ | refine ⟨_, _, .inr (by tm_at "sq"), rfl, ?_⟩)
local macro_rules | `(tactic| tm_at "sb") => `(tactic| first | assumption | exact SameB.refl | (refine SameB.ws ?_; tm_at "sb") | (refine SameB.wr ?_ (by tm_at "fr"); tm_at "sb") | (refine SameB.trans ?_ (by assumption); tm_at "sb"))
theorem ArAt.sameL {ad : Ad} {H H' : Hp} {a x : Addr} {ps : List Pk} {ys : List V} (h : ArAt ad H a ps) (hx : H x = some (.lst ys)) (s : SameB x H H') : ArAt ad H' a ps := by
  obtain ⟨dx, dd, q, as, h1, h2, h3, h4, h5, ns, h6, h7⟩ := h
  have k : ∀ {b o}, H b = some o → (∀ l, o ≠ .lst l) → H' b = some o := fun {b o} hb n => s.get (fun z => by subst z; rw [hx] at hb; exact n _ (Option.some.inj hb).symm) hb
  exact ⟨dx, dd, q, as, k h1 (fun _ z => nomatch z), PksAt.sameO hx (fun _ _ _ _ z => nomatch z) (fun _ z => nomatch z) s h2, k h3 (fun _ z => nomatch z), h4, h5, ns, k h6 (fun _ z => nomatch z), h7⟩
/-- what stands through the law's turns -/
structure LwS (ad : Ad) (ps qs : List Pk) (s E N ar : Addr) (H1 : Hp) (k : Nat) (H : Hp) : Prop where
  ev : H E = some (.lst ((ps.map Pk.name).map V.str))
  ne : E ≠ s
  nd : ∃ zq : List (Addr × Pk), zq.map Prod.snd = ps ∧ H N = some (.dK (kvOf (fun z => z.2.name) (fun z => .ref z.1) zq)) ∧ ∀ z ∈ zq, H z.1 = some (.tup (z.2.needs.map V.str))
  ar : ArAt ad H ar qs
  src : ∃ ys, H s = some (.lst ys) ∧ SrcL k ys
  same : SameB s H1 H
theorem LwS.on {ad : Ad} {ps qs : List Pk} {s E N ar : Addr} {H1 H H' : Hp} {k : Nat} (L : LwS ad ps qs s E N ar H1 k H) (e : Same H H') : LwS ad ps qs s E N ar H1 k H' := by
  obtain ⟨zq, z1, z2, z3⟩ := L.nd
  obtain ⟨ys, y1, y2⟩ := L.src
  exact ⟨e _ _ L.ev, L.ne, ⟨zq, z1, e _ _ z2, fun z hz => e _ _ (z3 z hz)⟩, L.ar.same e, ⟨ys, e _ _ y1, y2⟩, L.same.trans (SameB.of e)⟩
theorem LwS.to {ad : Ad} {ps qs : List Pk} {s E N ar : Addr} {H1 H H' : Hp} {k k' : Nat} {ys : List V} (L : LwS ad ps qs s E N ar H1 k H) (e : SameB s H H') (hs : H' s = some (.lst ys)) (hy : SrcL k' ys) : LwS ad ps qs s E N ar H1 k' H' := by
  obtain ⟨zq, z1, z2, z3⟩ := L.nd
  obtain ⟨ys0, y1, y2⟩ := L.src
  exact ⟨e.get L.ne L.ev, L.ne, ⟨zq, z1, e.get (fun z => by subst z; rw [y1] at z2; cases z2) z2, fun z hz => e.get (fun w => by have := z3 z hz; rw [w, y1] at this; cases this) (z3 z hz)⟩, L.ar.sameL y1 e, ⟨ys, hs, hy⟩, L.same.trans e⟩
theorem LwS.mono {ad : Ad} {ps qs : List Pk} {s E N ar : Addr} {H1 H : Hp} {k k' : Nat} (L : LwS ad ps qs s E N ar H1 k H) (h : k ≤ k') : LwS ad ps qs s E N ar H1 k' H := by
  obtain ⟨ys, y1, y2⟩ := L.src
  exact ⟨L.ev, L.ne, L.nd, L.ar, ⟨ys, y1, y2.mono h⟩, L.same⟩
theorem LwS.call {ad : Ad} {ps qs : List Pk} {s E N ar t : Addr} {H1 H : Hp} {k : Nat} {ns : List Str} {Q : VK} {X : XK} (L : LwS ad ps qs s E N ar H1 k H) (ht : H t = some (.tup (ns.map V.str))) (hn : ∀ n ∈ ns, n ∈ qs.map Pk.name) (hl : ns.length ≤ 60)
    (q : ∀ (x : Addr) (ys : List Str) (H' : Hp), Same H H' → H' x = some (.tup (ys.map V.str)) → Aff qs ns ys → Q (.ref x) H') : spAff ad [.ref ar, .ref t] H Q X := ⟨ar, t, ns, qs, rfl, L.ar, ht, hn, hl, q⟩
def spLaw (K : PySem.W.Frag) : Sp := fun vs H Q _ => ∃ (a : Addr) (ns : List Int), vs = [.ref a] ∧ SqL K H a (ns.map V.int) ∧ ns.length ≤ 63 ∧ ∀ H', Q (.bl true) H'
section
variable {P : Program} {w : World} {K : PySem.W.Frag} {mg : Str → Option Value} {base : Heap} {ad : Ad}
set_option maxHeartbeats 16000000 in
theorem ok_law (T : Txt P K mg ad) : FnOk P w K mg base CX0 24 ad.a_law ad.d_law ["_law_script"] (spLaw K) := by
  refine T.f_law.ok sc_law (fun vs H Q E h => ?_) (fun cdv A outer s H vs Q E hr h => ?_)
  · obtain ⟨a, ns, rfl, _⟩ := h; rfl
  · obtain ⟨a, ns, rfl, ha, hns, q⟩ := h
    refine ⟨_, pss_cons (ps_for PassesOwn.never rfl (pi_range1 rfl T.n_range (pa_cons (pe_callB (cc_max rfl) (by rfl) T.n_max (by decide +kernel) (pa_cons pe_int (pa_cons (pe_callB (cc_min rfl) (by rfl) T.n_min (by decide +kernel) (pa_cons pe_int (pa_cons (pe_callB (cc_len (K := K)) (by rfl) T.n_len (by decide +kernel) (pa_cons (cv 0) pa_nil)) pa_nil))) pa_nil))) pa_nil)) (pg_name (i := 1) sc_law.nd rfl (by first | exact Or.inl rfl | exact Or.inr rfl))
        (pss_cons (ps_set (i := 2) sc_law.nd rfl (by first | exact Or.inl rfl | exact Or.inr rfl) (pe_call (ok_law_source T) (hr.mono (by decide)) rfl T.m_law_source T.k_law_source T.b_law_source .nil pass0 (pa_cons (cv 0) (pa_cons (cv 1) pa_nil))))
        (pss_cons (ps_set (i := 3) sc_law.nd rfl (by first | exact Or.inl rfl | exact Or.inr rfl) (pe_call (ok_law_drawn_packages T) (hr.mono (by decide)) rfl T.m_law_drawn_packages T.k_law_drawn_packages T.b_law_drawn_packages .nil pass0 (pa_cons (cv 2) (pa_cons (pe_op (oc_add (K := K)) pe_int (pe_call (ok_law_draw T) (hr.mono (by decide)) rfl T.m_law_draw T.k_law_draw T.b_law_draw .nil pass0 (pa_cons (cv 2) (pa_cons pe_int pa_nil)))) (pa_cons pe_int pa_nil)))))
        (pss_cons (ps_set (i := 4) sc_law.nd rfl (by first | exact Or.inl rfl | exact Or.inr rfl) (pe_call (ok_law_made_archive T) (hr.mono (by decide)) rfl T.m_law_made_archive T.k_law_made_archive T.b_law_made_archive .nil pass0 (pa_cons (pe_call (ok_law_shuffled T) (hr.mono (by decide)) rfl T.m_law_shuffled T.k_law_shuffled T.b_law_shuffled .nil pass0 (pa_cons (cv 2) (pa_cons (cv 3) pa_nil))) pa_nil)))
        (pss_cons (ps_setLc (i := 5) (own := [("_law_row", 6)]) (g := gName 6) (by rfl) sc_law.nd rfl rfl (sw_true rfl rfl rfl (by decide +kernel)) (pic_seq (K := K) (cv 3)) (blkOk_by (own := [("_law_row", 6)]) (N := N_law) (sc := defScope s_law) (by decide +kernel)) (fun _ _ _ _ _ => pg_name (i := 6) sc_law.nd rfl (by first | exact Or.inl rfl | exact Or.inr rfl)) (fun _ _ _ _ _ => pts_nil) (fun _ _ _ _ _ => pe_ix (ic_seq (K := K)) (cv 6) pe_int (fun _ _ => rfl)))
        (pss_cons (ps_set (i := 7) sc_law.nd rfl (by first | exact Or.inl rfl | exact Or.inr rfl) (pe_callTy (cc_dict (K := K) rfl) (by rfl) T.n_dict (by decide +kernel) (pa_cons (pe_lc (own := [("_law_row", 6)]) (g := gName 6) (by rfl) sc_law.nd  (pic_seq (K := K) (cv 3)) (blkOk_by (own := [("_law_row", 6)]) (N := N_law) (sc := defScope s_law) (by decide +kernel)) (fun _ _ _ _ _ => pg_name (i := 6) sc_law.nd rfl (by first | exact Or.inl rfl | exact Or.inr rfl)) (fun _ _ _ _ _ => pts_nil) (fun _ _ _ _ _ => pe_tup (pa_cons (pe_ix (ic_seq (K := K)) (cv 6) pe_int (fun _ _ => rfl)) (pa_cons (pe_ix (ic_seq (K := K)) (cv 6) pe_int (fun _ _ => rfl)) pa_nil)))) pa_nil)))
        (pss_one (ps_for PassesOwn.never rfl (pi_range1 rfl T.n_range (pa_cons pe_int pa_nil)) (pg_name (i := 8) sc_law.nd rfl (by first | exact Or.inl rfl | exact Or.inr rfl))
          (pss_cons (ps_set (i := 9) sc_law.nd rfl (by first | exact Or.inl rfl | exact Or.inr rfl) (pe_slice (sc_U (K := K)) (pe_call (ok_law_shuffled T) (hr.mono (by decide)) rfl T.m_law_shuffled T.k_law_shuffled T.b_law_shuffled .nil pass0 (pa_cons (cv 2) (pa_cons (cv 5) pa_nil))) po_none (poc (pe_call (ok_law_draw T) (hr.mono (by decide)) rfl T.m_law_draw T.k_law_draw T.b_law_draw .nil pass0 (pa_cons (cv 2) (pa_cons (pe_op (oc_add (K := K)) (pe_callB (cc_len (K := K)) (by rfl) T.n_len (by decide +kernel) (pa_cons (cv 5) pa_nil)) pe_int) pa_nil))))))
          (pss_cons (ps_set (i := 10) sc_law.nd rfl (by first | exact Or.inl rfl | exact Or.inr rfl) (pe_meth (cv 4) T.cl_Archive.cl T.me_Archive_affected (ok_Archive_affected T) (hr.mono (by decide)) T.b_Archive_affected .nil pass0 (pa_cons (pe_callTy (cc_tuple (K := K)) (by rfl) T.n_tuple (by decide +kernel) (pa_cons (cv 9) pa_nil)) pa_nil)))
          (pss_cons (ps_set (i := 11) sc_law.nd rfl (by first | exact Or.inl rfl | exact Or.inr rfl) (pe_lst pa_nil))
          (pss_cons (ps_for PassesOwn.never rfl (pic_seq (K := K) (cv 9)) (pg_name (i := 12) sc_law.nd rfl (by first | exact Or.inl rfl | exact Or.inr rfl))
            (pss_one (ps_set (i := 11) sc_law.nd rfl (by first | exact Or.inl rfl | exact Or.inr rfl) (pe_op (oc_add (K := K)) (cv 11) (pe_callTy (cc_list (K := K)) (by rfl) T.n_list (by decide +kernel) (pa_cons (pe_meth (cv 4) T.cl_Archive.cl T.me_Archive_affected (ok_Archive_affected T) (hr.mono (by decide)) T.b_Archive_affected .nil pass0 (pa_cons (pe_tup (pa_cons (cv 12) pa_nil)) pa_nil)) pa_nil))))))
          (pss_cons (cs_if (PW.pt (cw_or (ct_cmp (oc_ne (K := K) hr.units) (pe_callB cc_sortedSS (by rfl) T.n_sorted (by decide +kernel) (pa_cons (pe_callTy (cc_setS (K := K)) (by rfl) T.n_set (by decide +kernel) (pa_cons (cv 11) pa_nil)) pa_nil)) (pe_callTy (cc_list (K := K)) (by rfl) T.n_list (by decide +kernel) (pa_cons (cv 10) pa_nil)) (nomark _)) (pw_or1 (ct_cmp (oc_ne (K := K) hr.units) (pe_meth (cv 4) T.cl_Archive.cl T.me_Archive_affected (ok_Archive_affected T) (hr.mono (by decide)) T.b_Archive_affected .nil pass0 (pa_cons (cv 10) pa_nil)) (cv 10) (nomark _)))))
            (pss_one (ps_ret pe_bl))
            pss_nil)
          (pss_cons (cs_if (ct_cmp (oc_ne (K := K) hr.units) (pe_lc (own := [("_law_name", 12)]) (g := gName 12) (by rfl) sc_law.nd  (pic_seq (K := K) (cv 9)) (blkOk_by (own := [("_law_name", 12)]) (N := N_law) (sc := defScope s_law) (by decide +kernel)) (fun _ _ _ _ _ => pg_name (i := 12) sc_law.nd rfl (by first | exact Or.inl rfl | exact Or.inr rfl)) (fun _ _ _ _ _ => pts_one (ct_cmp (oc_notIn (K := K)) (cv 12) (cv 10) rfl)) (fun _ _ _ _ _ => cv 12)) (pe_lst pa_nil) (nomark _))
            (pss_one (ps_ret pe_bl))
            pss_nil)
          (pss_cons (ps_for PassesOwn.never rfl (pic_seq (K := K) (cv 5)) (pg_name (i := 12) sc_law.nd rfl (by first | exact Or.inl rfl | exact Or.inr rfl))
            (pss_cons (ps_set (i := 13) sc_law.nd rfl (by first | exact Or.inl rfl | exact Or.inr rfl) (pe_cmpR (oc_ne (K := K) hr.units) (pe_lc (own := [("_law_need", 14)]) (g := gName 14) (by rfl) sc_law.nd  (pic_seq (K := K) (pe_dget (hu_of hr) (cv 7) (cv 12) (fun _ _ => rfl))) (blkOk_by (own := [("_law_need", 14)]) (N := N_law) (sc := defScope s_law) (by decide +kernel)) (fun _ _ _ _ _ => pg_name (i := 14) sc_law.nd rfl (by first | exact Or.inl rfl | exact Or.inr rfl)) (fun _ _ _ _ _ => pts_one (ct_cmp (oc_in (K := K)) (cv 14) (cv 10) rfl)) (fun _ _ _ _ _ => cv 14)) (pe_lst pa_nil) (nomark _)))
            (pss_cons (cs_if (PW.pt (cw_and (ct_val (cv 13)) (pw_and1 (ct_cmp (oc_notIn (K := K)) (cv 12) (cv 10) rfl))))
              (pss_one (ps_ret pe_bl))
              pss_nil)
            (pss_one (cs_if (PW.pt (cw_and (ct_cmp (oc_in (K := K)) (cv 12) (cv 10) rfl) (cw_and (ct_cmp (oc_notIn (K := K)) (cv 12) (cv 9) rfl) (pw_and1 (pt_not (ct_val (cv 13)))))))
              (pss_one (ps_ret pe_bl))
              pss_nil)))))
          (pss_cons (ps_set (i := 15) sc_law.nd rfl (by first | exact Or.inl rfl | exact Or.inr rfl) (pe_meth (cv 4) T.cl_Archive.cl T.me_Archive_affected (ok_Archive_affected T) (hr.mono (by decide)) T.b_Archive_affected .nil pass0 (pa_cons (pe_callTy (cc_tuple (K := K)) (by rfl) T.n_tuple (by decide +kernel) (pa_cons (pe_op (oc_add (K := K)) (cv 9) (pe_slice (sc_U (K := K)) (cv 5) po_none (poc pe_int))) pa_nil)) pa_nil)))
          (pss_cons (cs_if (ct_cmp (oc_ne (K := K) hr.units) (pe_lc (own := [("_law_name", 12)]) (g := gName 12) (by rfl) sc_law.nd  (pic_seq (K := K) (cv 10)) (blkOk_by (own := [("_law_name", 12)]) (N := N_law) (sc := defScope s_law) (by decide +kernel)) (fun _ _ _ _ _ => pg_name (i := 12) sc_law.nd rfl (by first | exact Or.inl rfl | exact Or.inr rfl)) (fun _ _ _ _ _ => pts_one (ct_cmp (oc_notIn (K := K)) (cv 12) (cv 15) rfl)) (fun _ _ _ _ _ => cv 12)) (pe_lst pa_nil) (nomark _))
            (pss_one (ps_ret pe_bl))
            pss_nil)
          (pss_cons (ps_asg (pe_tup (pa_cons pe_int (pa_cons (pe_callB (cc_sortedL (K := K)) (by rfl) T.n_sorted (by decide +kernel) (pa_cons (cv 9) pa_nil)) pa_nil))) (pg_tup rfl (pgs_cons (pg_name (i := 16) sc_law.nd rfl (by first | exact Or.inl rfl | exact Or.inr rfl)) (pgs_cons (pg_name (i := 17) sc_law.nd rfl (by first | exact Or.inl rfl | exact Or.inr rfl)) pgs_nil))))
          (pss_cons (ps_while PassesOwn.never (ct_cmp oc_le (cv 16) (pe_callB (cc_len (K := K)) (by rfl) T.n_len (by decide +kernel) (pa_cons (cv 5) pa_nil)) (nomark _))
            (pss_cons (ps_setLc (i := 18) (own := [("_law_name", 12)]) (g := gName 12) (by rfl) sc_law.nd rfl rfl (sw_true rfl rfl rfl (by decide +kernel)) (pic_seq (K := K) (cv 5)) (blkOk_by (own := [("_law_name", 12)]) (N := N_law) (sc := defScope s_law) (by decide +kernel)) (fun _ _ _ _ _ => pg_name (i := 12) sc_law.nd rfl (by first | exact Or.inl rfl | exact Or.inr rfl)) (fun _ _ _ _ _ => pts_one (ct_cmp (oc_ne (K := K) hr.units) (pe_lc (own := [("_law_need", 14)]) (g := gName 14) (by rfl) sc_law.nd  (pic_seq (K := K) (pe_dget (hu_of hr) (cv 7) (cv 12) (fun _ _ => rfl))) (blkOk_by (own := [("_law_need", 14)]) (N := N_law) (by rfl)) (fun _ _ _ _ _ => pg_name (i := 14) sc_law.nd rfl (by first | exact Or.inl rfl | exact Or.inr rfl)) (fun _ _ _ _ _ => pts_one (ct_cmp (oc_in (K := K)) (cv 14) (cv 17) rfl)) (fun _ _ _ _ _ => cv 14)) (pe_lst pa_nil) (nomark _))) (fun _ _ _ _ _ => cv 12))
            (pss_cons (ps_set (i := 17) sc_law.nd rfl (by first | exact Or.inl rfl | exact Or.inr rfl) (pe_callB cc_sortedSS (by rfl) T.n_sorted (by decide +kernel) (pa_cons (pe_callTy (cc_setS (K := K)) (by rfl) T.n_set (by decide +kernel) (pa_cons (pe_op (oc_add (K := K)) (cv 17) (cv 18)) pa_nil)) pa_nil)))
            (pss_one (ps_set (i := 16) sc_law.nd rfl (by first | exact Or.inl rfl | exact Or.inr rfl) (pe_op (oc_add (K := K)) (cv 16) pe_int))))))
          (pss_one (cs_if (ct_cmp (oc_ne (K := K) hr.units) (cv 17) (pe_callTy (cc_list (K := K)) (by rfl) T.n_list (by decide +kernel) (pa_cons (cv 10) pa_nil)) (nomark _))
            (pss_one (ps_ret pe_bl))
            pss_nil)))))))))))))))))))))
      (pss_one (ps_ret (pe_cmpR (oc_eq (K := K) hr.units) (pe_meth (cv 4) T.cl_Archive.cl T.me_Archive_affected (ok_Archive_affected T) (hr.mono (by decide)) T.b_Archive_affected .nil pass0 (pa_cons (pe_tup pa_nil) pa_nil)) (pe_tup pa_nil) (nomark _)))), ?_⟩
    tm_at "w"
    refine ⟨_, .inl ha, ?_⟩
    rw [List.length_map]
    refine ⟨_, rfl, by omega, by omega, ?_⟩
    refine for_range (lo := 0) (n := (max 1 (min 3 (ns.length : Int))).toNat) (fun i σ H' => ∃ (u1 u2 u3 u4 u5 u6 u7 u8 u9 u10 u11 u12 u13 u14 u15 u16 u17 u18 : Option V), σ = [some (.ref a), u1, u2, u3, u4, u5, u6, u7, u8, u9, u10, u11, u12, u13, u14, u15, u16, u17, u18] ∧ Same H H' ∧ (i = 0 ∨ ∃ (ar : Addr) (ps : List Pk), u4 = some (.ref ar) ∧ ArAt ad H' ar ps)) ⟨_, _, _, _, _, _, _, _, _, _, _, _, _, _, _, _, _, _, rfl, Same.refl _, .inl rfl⟩ ?_ ?_
    · rintro i σ H1 hi ⟨u1, u2, u3, u4, u5, u6, u7, u8, u9, u10, u11, u12, u13, u14, u15, u16, u17, u18, rfl, s1, _⟩
      refine ⟨a, _, ns, rfl, s1.seq ha, hns, by omega, by omega, fun s xs hs hx => ?_⟩
      have gs : (upd H1 s (.lst xs)) s = some (.lst xs) := upd_same
      have sS : SameB s H1 (upd H1 s (.lst xs)) := SameB.at
      generalize upd H1 s (HO.lst xs) = G at sS gs ⊢
      refine ⟨s, _, _, xs, rfl, gs, hx, by omega, by decide, by decide, fun m ys1 hm0 hm1 hy1 => ?_⟩
      refine ⟨s, _, _, _, ys1, rfl, upd_same, hy1, by omega, by omega, by omega, by decide, by decide, fun p as ps ys2 G2 hp gp rows hnm ga gs2 hy2 b2 => ?_⟩
      have b2 : SameB s H1 G2 := (sS.ws).trans b2
      have nps : p ≠ s := (ne_of_none (upd_same (H := G) (a := s) (o := .lst ys1)) hp).symm
      have hlen : as.length = ps.length := prd_len rows
      have hpl : ps.length ≤ 10 := by
        rw [← List.length_map (f := Pk.name), hnm, List.length_take]
        exact Nat.min_le_right _ _
      have nok : ∀ q ∈ ps, NameOk q.name := fun q hq => ten_ok _ (List.mem_of_mem_take (hnm ▸ List.mem_map_of_mem (f := Pk.name) hq))
      clear hp hnm sS gs hx
      -- the archive, its rows shuffled
      refine ⟨s, p, _, ys2, _, rfl, gs2, hy2, by omega, gp, nps, by rw [List.length_map]; omega, fun p2 us ys3 G3 pm hp2 gp2 gs3 hy3 b3 => ?_⟩
      have rows3 : Paired (fun a p => RowAt G3 a p) as ps := prd_mono (fun _ _ h => RowAt.sameL gs2 b3 h) rows
      have gp3 := b3.get nps gp
      have hz1 : (as.zip ps).map (fun z => V.ref z.1) = as.map V.ref := by
        rw [show (fun z : Addr × Pk => V.ref z.1) = V.ref ∘ Prod.fst from rfl, ← List.map_map, List.map_fst_zip (by omega)]
      obtain ⟨zp, zpm, zeq⟩ := perm_lift pm (as.zip ps) hz1.symm
      have hps : (zp.map Prod.snd).Perm ps := by
        have := zpm.map Prod.snd
        rwa [List.map_snd_zip (by omega)] at this
      have ga2 : GoodA (zp.map Prod.snd) := ⟨(hps.map Pk.name).nodup_iff.mpr ga.1, fun q hq => by
        obtain ⟨g1, g2⟩ := ga.2 q (hps.mem_iff.mp hq)
        exact ⟨fun m hm => (hps.map Pk.name).mem_iff.mpr (g1 m hm), g2⟩⟩
      refine ⟨p2, zp.map Prod.fst, zp.map Prod.snd, rfl, by rw [gp2, ← zeq, List.map_map]; rfl, prd_of fun z hz => prd_zip rows3 z (zpm.mem_iff.mp hz), ga2, by rw [hps.length_eq]; omega, fun q hq => nok q (hps.mem_iff.mp hq), fun ar G4 s4 A4 => ?_⟩
      have b4 : SameB s H1 G4 := (b2.trans b3).trans (SameB.of s4)
      replace gp3 := s4 _ _ gp3; replace rows3 : Paired (fun a p => RowAt G4 a p) as ps := prd_mono (fun _ _ h => RowAt.same h s4) rows3; replace gs3 := s4 _ _ gs3
      clear gp rows gs2 gp2 hp2 b2 b3 s4 pm zeq zpm hz1 hy2 hy1
      generalize hqs : zp.map Prod.snd = qs at *
      -- all names
      refine .inl ⟨p, rfl, ⟨_, SqL.of gp3⟩, fun E hE => ?_⟩
      have nEs : E ≠ s := (ne_of_none gs3 hE).symm
      refine lc_fl (walk_list (K := K) (a := p) (xs := as.map V.ref)) (fun _ => true) (fun y (p : Pk) H' => ∃ z, y = .str z ∧ z = p.name) (xs := ps) (by rw [List.length_map, hlen]) (fun y c H3 H4 acc hD3 s3 h => h) hE (by rw [List.length_map, hlen]; omega) (fun H3 s3 => SqL.of (s3 _ _ gp3)) ?_ ?_
      · rintro j r y H3 H4 Nx Nz er s3 ⟨rfl, hy⟩ k1 _
        rw [List.getElem?_map] at hy
        obtain ⟨b, eb, rfl⟩ := Option.map_eq_some_iff.mp hy
        obtain ⟨r', er', hr'⟩ := prd_get (prd_mono (fun _ _ h => RowAt.same h s3) rows3) eb
        rw [er] at er'
        cases er'
        obtain ⟨qn, v, z1, z2, z3⟩ := hr'
        refine ⟨rfl, ?_⟩
        exact ⟨_, _, .inr (SqT.of z1), rfl, k1 rfl _ _ (Same.refl _) ⟨_, rfl, rfl⟩⟩
      intro G5 yv pr s5 hE5
      obtain ⟨zs, rfl, pr'⟩ := valsP pr
      rw [List.filter_eq_self.mpr (fun _ _ => rfl)] at pr'
      obtain rfl := prd_eqmap pr'
      replace gp3 := s5 _ _ gp3; replace rows3 : Paired (fun a p => RowAt G5 a p) as ps := prd_mono (fun _ _ h => RowAt.same h s5) rows3; replace gs3 := s5 _ _ gs3; replace A4 := A4.same s5; replace b4 := b4.trans (SameB.of s5)
      clear pr pr' s5 hE
      -- the needs
      refine .inl ⟨p, rfl, ⟨_, SqL.of gp3⟩, fun D hD => ?_⟩
      refine lc_fl (walk_list (K := K) (a := p) (xs := as.map V.ref)) (fun _ => true) (fun y (r : Pk) H' => ∃ b, y = .ref b ∧ ∃ qn, H' b = some (.tup [.str r.name, .ref qn]) ∧ H' qn = some (.tup (r.needs.map V.str))) (xs := ps) (by rw [List.length_map, hlen]) (fun y c H3 H4 acc hD3 s3 ⟨b, z1, qn, z2, z3⟩ => ⟨b, z1, qn, s3.get (fun z => by subst z; rw [hD3] at z2; cases z2) z2, s3.get (fun z => by subst z; rw [hD3] at z3; cases z3) z3⟩) hD (by rw [List.length_map, hlen]; omega) (fun H3 s3 => SqL.of (s3 _ _ gp3)) ?_ ?_
      · rintro j r y H3 H4 Nx Nz er s3 ⟨rfl, hy⟩ k1 _
        rw [List.getElem?_map] at hy
        obtain ⟨b, eb, rfl⟩ := Option.map_eq_some_iff.mp hy
        obtain ⟨r', er', hr'⟩ := prd_get (prd_mono (fun _ _ h => RowAt.same h s3) rows3) eb
        rw [er] at er'
        cases er'
        obtain ⟨qn, v, z1, z2, z3⟩ := hr'
        refine ⟨rfl, ?_⟩
        refine ⟨_, _, .inr (SqT.of z1), rfl, ?_⟩
        refine ⟨_, _, .inr (SqT.of z1), rfl, ?_⟩
        refine ⟨by show 2 ≤ sizeLine; decide, fun t ht => ?_⟩
        exact k1 rfl _ _ (Same.new ht) ⟨t, rfl, qn, upd_same, upd_new z2 ht⟩
      intro G6 yv pr s6 hD6
      obtain ⟨ts, rfl, pr'⟩ := refsP pr
      rw [List.filter_eq_self.mpr (fun _ _ => rfl)] at pr'
      replace gs3 := s6 _ _ gs3; replace A4 := A4.same s6; replace b4 := b4.trans (SameB.of s6); replace hE5 := s6 _ _ hE5
      obtain ⟨zq, hzq, pz⟩ : ∃ zq : List (Addr × Pk), zq.map Prod.snd = ps ∧ Paired (fun t (z : Addr × Pk) => G6 t = some (.tup [.str z.2.name, .ref z.1]) ∧ G6 z.1 = some (.tup (z.2.needs.map V.str))) ts zq := by
        clear pr hD6 hD hlen rows3 ga ga2 hps nok hpl hE5
        induction pr' with
        | nil => exact ⟨[], rfl, .nil⟩
        | cons r t ih =>
          obtain ⟨zq, e1, e2⟩ := ih
          obtain ⟨qn, r1, r2⟩ := r
          exact ⟨(qn, _) :: zq, by rw [List.map_cons, e1], .cons ⟨r1, r2⟩ e2⟩
      refine .inr ⟨D, ts, kvOf (fun z : Addr × Pk => z.2.name) (fun z => .ref z.1) zq, rfl, SqL.of hD6, prd_map (fun z : Addr × Pk => ((Sum.inr z.2.name : Key), V.ref z.1)) (fun t z h => SqT.of h.1) pz, fun N hN => ?_⟩
      have hzn : zq.map (fun z => z.2.name) = ps.map Pk.name := by
        rw [← hzq, List.map_map]; rfl
      rw [show mergeK [] (kvOf (fun z : Addr × Pk => z.2.name) (fun z => V.ref z.1) zq) = kvOf (fun z : Addr × Pk => z.2.name) (fun z => .ref z.1) zq from mergeK_kv (acc := []) (by rw [List.nil_append, hzn]; exact ga.1)]
      have s7 : Same G6 (upd G6 N (.dK (kvOf (fun z : Addr × Pk => z.2.name) (fun z => .ref z.1) zq))) := Same.new hN
      have hzt : ∀ z ∈ zq, G6 z.1 = some (.tup (z.2.needs.map V.str)) := fun z hz => by
        obtain ⟨i, hi, ei⟩ := List.mem_iff_getElem.mp hz
        have hz2 : zq[i]? = some z := by rw [List.getElem?_eq_getElem hi, ei]
        have hti : i < ts.length := by rw [prd_len pz]; exact hi
        obtain ⟨z', e1, e2⟩ := prd_get pz (List.getElem?_eq_getElem hti)
        rw [hz2] at e1
        cases e1
        exact e2.2
      have L0 : LwS ad ps qs s E N ar H1 (ys3.length * 0 + (0 + 1 + 1000 + 1000)) (upd G6 N (.dK (kvOf (fun z : Addr × Pk => z.2.name) (fun z => .ref z.1) zq))) :=
        ⟨s7 _ _ hE5, nEs, ⟨zq, hzq, upd_same, fun z hz => s7 _ _ (hzt z hz)⟩, A4.same s7, ⟨ys3, s7 _ _ gs3, hy3.mono (by rw [List.length_map]; omega)⟩, b4.trans (SameB.of s7)⟩
      rw [Nat.mul_zero, Nat.zero_add] at L0
      generalize upd G6 N (HO.dK (kvOf (fun z : Addr × Pk => z.2.name) (fun z => V.ref z.1) zq)) = G7 at L0 ⊢
      clear hzt hzn pz pr pr' hD6 hD hN s7 s6 hE5 gp3 gs3 rows3 b4 A4 hy3
      clear ts D
      have L0 := L0.mono (show 0 + 1 + 1000 + 1000 ≤ 3000 by decide)
      have hql : qs.length ≤ 10 := by rw [hps.length_eq]; exact hpl
      have hqn : ∀ n, n ∈ qs.map Pk.name ↔ n ∈ ps.map Pk.name := fun n => (hps.map Pk.name).mem_iff
      clear b2 hqs hzq
      refine ⟨6, rfl, by omega, by omega, ?_⟩
      refine for_range (lo := 0) (n := 6) (fun j σ H' => ∃ (w6 w8 w9 w10 w11 w12 w13 w14 w15 w16 w17 w18 : Option V), σ = [some (.ref a), some (.int (0 + (i : Int))), some (.ref s), some (.ref p), some (.ref ar), some (.ref E), w6, some (.ref N), w8, w9, w10, w11, w12, w13, w14, w15, w16, w17, w18] ∧ LwS ad ps qs s E N ar H1 (3000 + 100 * j) H')
        ⟨_, _, _, _, _, _, _, _, _, _, _, _, rfl, L0⟩ ?_ ?_
      · clear L0
        rintro j σ GA hj ⟨w6, w8, w9, w10, w11, w12, w13, w14, w15, w16, w17, w18, rfl, L⟩
        obtain ⟨ysA, gA, hA⟩ := L.src
        refine ⟨s, E, _, ysA, _, rfl, gA, hA, by omega, L.ev, L.ne, by rw [List.length_map, List.length_map]; omega, fun p3 us ysB GB pm hp3 gp3 gsB hyB bB => ?_⟩
        have nps3 : p3 ≠ s := (ne_of_none gA hp3).symm
        rw [List.length_map, List.length_map] at hyB
        have LB := L.to bB gsB hyB
        obtain ⟨zs, pm2, rfl⟩ := perm_lift pm (ps.map Pk.name) rfl
        clear L gA hA bB hp3 pm
        refine ⟨_, .inl (SqL.of LB.ev), ?_⟩
        rw [List.length_map, List.length_map]
        refine ⟨s, _, _, ysB, rfl, gsB, hyB, by omega, by omega, by omega, fun d ysC hd0 hd1 hyC => ?_⟩
        obtain ⟨dn, rfl⟩ := Int.eq_ofNat_of_zero_le hd0
        have LC := LB.to (SameB.at (o := .lst ysC)) upd_same hyC
        refine .inl ⟨p3, _, rfl, SqL.of (upd_oth nps3 gp3), fun nl hnl => ?_⟩
        rw [cutV_n, ← List.map_take]
        have LD := (LC.on (Same.new (o := .lst ((zs.take dn).map V.str)) hnl)).mono (show 3000 + 100 * j + ps.length + 1 ≤ 3000 + 100 * (j + 1) by omega)
        have gnl : (upd (upd GB s (.lst ysC)) nl (.lst ((zs.take dn).map V.str))) nl = some (.lst ((zs.take dn).map V.str)) := upd_same
        have nmq : ∀ n ∈ zs.take dn, n ∈ qs.map Pk.name := fun n hn => (hqn n).mpr (pm2.mem_iff.mp (List.mem_of_mem_take hn))
        have nmd : (zs.take dn).Nodup := (pm2.nodup_iff.mpr ga.1).sublist (List.take_sublist _ _)
        generalize zs.take dn = nms at LD gnl nmq nmd ⊢
        generalize upd (upd GB s (HO.lst ysC)) nl (HO.lst (nms.map V.str)) = GD at LD gnl ⊢
        clear LC LB hnl hyC gp3 gsB hyB hd0 hd1 nps3 pm2 ysB ysC
        have nml : nms.length ≤ 10 := by have := nd_le nmd nmq; rw [List.length_map] at this; omega
        obtain ⟨dx, dd, sq, aas, h1, _⟩ := id LD.ar
        -- what they affect
        refine ⟨ar, dx, _, rfl, h1, lka_no an_by an_so, ?_⟩
        refine ⟨_, .inl ⟨SqL.of gnl, fun t ht => ?_⟩⟩
        refine ⟨ar, t, nms, qs, rfl, (LD.on (Same.new ht)).ar, upd_same, nmq, by omega, fun x ys GE s3 hx F => ?_⟩
        have s4 := (Same.new ht).trans s3
        replace LD := LD.on s4; replace gnl := s4 _ _ gnl; replace h1 := s4 _ _ h1
        clear s4 s3 ht
        have yl : ys.length ≤ 10 := by have := nd_le F.nd F.sub; rw [List.length_map] at this; omega
        -- the union
        refine ⟨Nat.zero_le _, fun ul hul => ?_⟩
        have s5 : Same GE (upd GE ul (.lst [])) := Same.new hul
        refine .inl ⟨nl, rfl, ⟨_, SqL.of (s5 _ _ gnl)⟩, ?_⟩
        refine for_it (n := nms.length) (walk_list (K := K) (a := nl) (xs := nms.map V.str) |> fun w => by rw [List.length_map] at w; exact w) (fun c σ H' => ∃ (ul : Addr) (us : List Str) (w12 : Option V), σ = [some (.ref a), some (.int (0 + (i : Int))), some (.ref s), some (.ref p), some (.ref ar), some (.ref E), w6, some (.ref N), some (.int (0 + (j : Int))), some (.ref nl), some (.ref x), some (.ref ul), w12, w13, w14, w15, w16, w17, w18] ∧
            H' ul = some (.lst (us.map V.str)) ∧ (∀ u, u ∈ us ↔ ∃ n ∈ nms.take c, ∃ zs, Aff qs [n] zs ∧ u ∈ zs) ∧ us.length ≤ 10 * c ∧ (∀ n ∈ nms.take c, ∃ zs, Aff qs [n] zs) ∧ Same GE H')
          ⟨ul, [], _, rfl, upd_same, fun u => ⟨fun h => (nomatch h), fun ⟨_, h, _⟩ => by rw [List.take_zero] at h; cases h⟩, Nat.zero_le _, (fun n h => by rw [List.take_zero] at h; cases h), s5⟩ (fun c σ H' _ ⟨_, _, _, _, _, _, _, _, s6⟩ => SqL.of (s6 _ _ gnl)) ?_ ?_
        · rintro c y σ G8x G8 hc ⟨ul, us, w12, rfl, gu, hu, hul2, hex, s6⟩ ⟨rfl, hy⟩
          rw [List.getElem?_map] at hy
          obtain ⟨n, en, rfl⟩ := Option.map_eq_some_iff.mp hy
          have hnm := List.mem_of_getElem? en
          have tk := take_snoc en
          refine ⟨ar, dx, _, rfl, s6 _ _ h1, lka_no an_by an_so, ?_⟩
          refine ⟨by show 1 ≤ sizeLine; decide, fun t ht => ?_⟩
          refine ⟨ar, t, [n], qs, rfl, ((LD.on s6).on (Same.new ht)).ar, upd_same, (fun m hm => by rw [List.mem_singleton.mp hm]; exact nmq n hnm), (by show 1 ≤ 60; decide), fun x2 zs2 G9 s7 hx2 F2 => ?_⟩
          have s8 := (Same.new ht).trans s7
          refine ⟨_, .inr (SqT.of hx2), fun l hl => ?_⟩
          have s9 := s8.trans (Same.new (o := .lst (zs2.map V.str)) hl)
          have zl : zs2.length ≤ 10 := by have := nd_le F2.nd F2.sub; rw [List.length_map] at this; omega
          refine .inl ⟨_, _, s9 _ _ gu, upd_same, by rw [List.length_map, List.length_map, sizeLine_eq]; omega, fun ul2 hul3 => ?_⟩
          refine ⟨ul2, us ++ zs2, _, rfl, by rw [upd_same, List.map_append], fun u => ?_, by rw [List.length_append]; omega, fun n' hn' => ?_, s6.trans (s9.trans (Same.new hul3))⟩
          · rw [List.mem_append, hu u, tk]
            constructor
            · rintro (⟨n', h', zs', B, hz⟩ | hz)
              · exact ⟨n', List.mem_append_left _ h', zs', B, hz⟩
              · exact ⟨n, List.mem_append_right _ List.mem_cons_self, zs2, F2, hz⟩
            · rintro ⟨n', h', zs', B, hz⟩
              rcases List.mem_append.mp h' with z | z
              · exact .inl ⟨n', z, zs', B, hz⟩
              · right
                rw [List.mem_singleton.mp z] at B
                rw [Aff.uniq F2 B (fun _ => Iff.rfl) B.inc F2.inc]
                exact hz
          · rw [tk] at hn'
            rcases List.mem_append.mp hn' with z | z
            · exact hex n' z
            · rw [List.mem_singleton.mp z]; exact ⟨zs2, F2⟩
        rintro σ G8 ⟨ul, us, w12, rfl, gu, hu, hul2, hex, s6⟩
        rw [List.take_length] at hu hex
        have hus : ∀ k, k ∈ us ↔ k ∈ ys := F.union hu hex
        replace LD := LD.on s6; replace gnl := s6 _ _ gnl; replace h1 := s6 _ _ h1; replace hx := s6 _ _ hx
        clear s5 s6 hul hu hex
        refine ⟨us, .inl (SqL.of gu), ?_, fun p1 ks1 hp1 ndk memk _ => ?_⟩
        · have : (200 : Nat) ≤ scanBound := by decide
          omega
        have hkl : ks1.length ≤ 10 := by
          have := nd_le ndk fun k hk => F.sub k ((hus k).mp ((memk k).mp hk))
          rw [List.length_map] at this; omega
        refine ⟨_, ks1.length, upd_same, by omega, fun so f srt nds mems hls hf => ?_⟩
        have hso : so = ys := set_uniq nds srt F.nd F.srt fun k => (mems k).trans (decide_eq_true_iff.trans (hus k))
        subst hso
        have s7 := (Same.new hp1).trans (Same.new (o := .lst (so.map V.str)) hf)
        refine ⟨_, .inr (SqT.of (s7 _ _ hx)), fun l hl => ?_⟩
        refine .inl (rNe_strs (.inl ⟨SqL.of (upd_new upd_same hl), SqL.of upd_same⟩) ?_)
        refine .fl (by simp) ?_
        have s8 := s7.trans (Same.new (o := .lst (so.map V.str)) hl)
        replace LD := LD.on s8; replace gnl := s8 _ _ gnl; replace h1 := s8 _ _ h1; replace hx := s8 _ _ hx
        clear s7 s8 hp1 hf hl gu ndk memk mems nds hkl
        generalize upd (upd (upd G8 p1 _) f (HO.lst (so.map V.str))) l (HO.lst (so.map V.str)) = GF at LD gnl h1 hx ⊢
        -- what the affected ones affect
        refine ⟨ar, dx, _, rfl, h1, lka_no an_by an_so, ?_⟩
        refine ⟨ar, x, so, qs, rfl, LD.ar, hx, F.sub, by omega, fun x2 zs2 GH s3 hx2 F2 => ?_⟩
        refine .inl (rNe_strs (.inr ⟨SqT.of hx2, SqT.of (s3 _ _ hx)⟩) ?_)
        have e2 : zs2 = so := Aff.uniq F2 F (fun _ => Iff.rfl) (fun _ h => h) fun n h => F2.inc n (F.inc n h)
        subst e2
        refine .fl (by simp) ?_
        replace LD := LD.on s3; replace gnl := s3 _ _ gnl; replace h1 := s3 _ _ h1; replace hx := s3 _ _ hx
        clear s3 F2 hx2
        -- none of the names is left out
        refine .inl ⟨nl, rfl, ⟨_, SqL.of gnl⟩, fun D hD => ?_⟩
        refine lc_fl (walk_list (K := K) (a := nl) (xs := nms.map V.str)) (fun m => decide (m ∉ zs2)) (fun y m H' => ∃ z : Str, y = .str z ∧ z = m) (xs := nms) (by rw [List.length_map]) (fun y c H3 H4 acc hD3 s3 h => h) hD (by rw [List.length_map]; omega) (fun H3 s4 => SqL.of (s4 _ _ gnl)) ?_ ?_
        · rintro j m y H3 H4 Nx Nz em s4 ⟨rfl, hy⟩ k1 k2
          rw [List.getElem?_map, em] at hy
          cases hy
          have hm := F.inc m (List.mem_of_getElem? em)
          refine ⟨rfl, ?_⟩
          refine ⟨_, .inr (SqT.of (s4 _ _ hx)), rfl, flatV_strs _, ?_⟩
          rw [inV_strs, decide_eq_true hm]
          exact k2 (decide_eq_false fun z => z hm) _ (Same.refl _)
        intro GI yv pr s4 hD5
        obtain ⟨vs, rfl, pr'⟩ := valsP pr
        rw [filt_none (fun m hm => decide_eq_false fun z => z (F.inc m hm))] at pr'
        cases pr'
        clear pr
        refine ⟨Nat.zero_le _, fun e1 he1 => ?_⟩
        refine .inl (rNe_strs (xs := []) (ys := []) (.inl ⟨SqL.of (upd_new hD5 he1), SqL.of upd_same⟩) ?_)
        refine .fl (by simp) ?_
        have s5 := s4.trans (Same.new (o := .lst []) he1)
        replace LD := LD.on s5; replace gnl := s5 _ _ gnl; replace h1 := s5 _ _ h1; replace hx := s5 _ _ hx
        clear s5 s4 hD hD5
        generalize upd GI e1 (HO.lst []) = GJ at LD gnl h1 hx ⊢
        -- who needs one
        refine .inl ⟨E, rfl, ⟨_, SqL.of LD.ev⟩, ?_⟩
        refine for_it (n := ps.length) (walk_list (K := K) (a := E) (xs := (ps.map Pk.name).map V.str) |> fun w => by rw [List.length_map, List.length_map] at w; exact w) (fun _ σ H' => ∃ (w12 w13 : Option V), σ = [some (.ref a), some (.int (0 + (i : Int))), some (.ref s), some (.ref p), some (.ref ar), some (.ref E), w6, some (.ref N), some (.int (0 + (j : Int))), some (.ref nl), some (.ref x), some (.ref ul), w12, w13, w14, w15, w16, w17, w18] ∧ Same GJ H')
          ⟨_, _, rfl, Same.refl _⟩ (fun c σ H' _ ⟨_, _, _, s6⟩ => SqL.of (s6 _ _ LD.ev)) ?_ ?_
        · rintro c y σ G8x G8 hc ⟨w12, w13, rfl, s6⟩ ⟨rfl, hy⟩
          rw [List.getElem?_map, List.getElem?_map] at hy
          obtain ⟨r, er, rfl⟩ : ∃ r : Pk, ps[c]? = some r ∧ y = .str r.name := by
            cases hr' : ps[c]? with
            | none => rw [hr'] at hy; cases hy
            | some r => rw [hr'] at hy; exact ⟨r, rfl, (Option.some.inj hy).symm⟩
          have hrm := List.mem_of_getElem? er
          obtain ⟨zq, z1, z2, z3⟩ := (LD.on s6).nd
          obtain ⟨z, hz, ez⟩ := List.mem_map.mp (z1 ▸ hrm : r ∈ zq.map Prod.snd)
          subst ez
          have hv := valV_kv (f := fun z : Addr × Pk => z.2.name) (v := fun z => V.ref z.1) (by
            rw [show (zq.map fun z => z.2.name) = (zq.map Prod.snd).map Pk.name by rw [List.map_map]; rfl, z1]; exact ga.1) hz
          have gz := z3 z hz
          have hn100 := (ga.2 z.2 hrm).2.2.2.1
          refine .inr ⟨_, _, rfl, hv ▸ DGet.k (k := Sum.inr z.2.name) z2, ?_⟩
          refine ⟨z.1, rfl, ⟨_, SqT.of gz⟩, fun D hD => ?_⟩
          refine lc_fl (walk_tup (xs := z.2.needs.map V.str)) (fun m => decide (m ∈ zs2)) (fun y m H' => ∃ z : Str, y = .str z ∧ z = m) (xs := z.2.needs) (by rw [List.length_map]) (fun y c H3 H4 acc hD3 s3 h => h) hD (by rw [List.length_map]; omega) (fun H3 s4 => SqT.of (s4 _ _ gz)) ?_ ?_
          · rintro j m y H3 H4 Nx Nz em s4 ⟨rfl, hy⟩ k1 k2
            rw [List.getElem?_map, em] at hy
            cases hy
            refine ⟨rfl, ?_⟩
            refine ⟨_, .inr (SqT.of (s4 _ _ (s6 _ _ hx))), rfl, flatV_strs _, ?_⟩
            rw [inV_strs]
            by_cases hm : m ∈ zs2
            · rw [decide_eq_true hm]
              exact k1 (decide_eq_true hm) _ _ (Same.refl _) ⟨_, rfl, rfl⟩
            · rw [decide_eq_false hm]
              exact k2 (decide_eq_false hm) _ (Same.refl _)
          intro G9 yv pr s7 hD7
          obtain ⟨vs, rfl, pr'⟩ := valsP pr
          have ev := prd_eqmap (f := id) pr'
          rw [List.map_id] at ev
          subst ev
          refine ⟨Nat.zero_le _, fun e1 he1 => ?_⟩
          have s8 := s6.trans (s7.trans (Same.new (o := .lst []) he1))
          refine .inl (rNe_strs (ys := []) (.inl ⟨SqL.of (upd_new hD7 he1), SqL.of upd_same⟩) ?_)
          have hiff : z.2.needs.filter (fun m => decide (m ∈ zs2)) = [] ↔ ¬ ∃ m ∈ z.2.needs, m ∈ zs2 := by
            rw [List.filter_eq_nil_iff]
            constructor
            · rintro h ⟨m, m1, m2⟩; exact h m m1 (decide_eq_true m2)
            · intro h m m1 m2; exact h ⟨m, m1, of_decide_eq_true m2⟩
          have hqm : z.2 ∈ qs := hps.mem_iff.mpr hrm
          by_cases hzf : z.2.needs.filter (fun m => decide (m ∈ zs2)) = []
          · rw [decide_eq_true hzf]
            refine .f (.f ?_)
            refine ⟨_, .inr (SqT.of (s8 _ _ hx)), rfl, flatV_strs _, ?_⟩
            rw [inV_strs]
            by_cases hin : z.2.name ∈ zs2
            · refine .tl (by rw [decide_eq_true hin]; rfl) ?_
              have hnn : z.2.name ∈ nms := (F.why hin).resolve_right fun ⟨r, hr, er', hm⟩ => by
                have : r = z.2 := nodup_inj ga2.1 hr hqm er'
                subst this
                exact hiff.mp hzf hm
              refine ⟨_, .inl (SqL.of (s8 _ _ gnl)), rfl, flatV_strs _, ?_⟩
              rw [inV_strs]
              refine .fl (by rw [decide_eq_true hnn]; rfl) ?_
              exact .f ⟨_, _, rfl, s8⟩
            · refine .fl (by rw [decide_eq_false hin]; rfl) ?_
              exact .f ⟨_, _, rfl, s8⟩
          · rw [decide_eq_false hzf]
            have hin : z.2.name ∈ zs2 := F.cl z.2 hqm (Classical.byContradiction fun h => hzf (hiff.mpr h))
            refine .t ?_
            refine ⟨_, .inr (SqT.of (s8 _ _ hx)), rfl, flatV_strs _, ?_⟩
            rw [inV_strs]
            refine .fl (by rw [decide_eq_true hin]; rfl) ?_
            refine ⟨_, .inr (SqT.of (s8 _ _ hx)), rfl, flatV_strs _, ?_⟩
            rw [inV_strs]
            refine .tl (by rw [decide_eq_true hin]; rfl) ?_
            refine ⟨_, .inl (SqL.of (s8 _ _ gnl)), rfl, flatV_strs _, ?_⟩
            rw [inV_strs]
            by_cases hn2 : z.2.name ∈ nms
            · refine .fl (by rw [decide_eq_true hn2]; rfl) ?_
              exact .f ⟨_, _, rfl, s8⟩
            · refine .tl (by rw [decide_eq_false hn2]; rfl) ?_
              exact .f ⟨_, _, rfl, s8⟩
        rintro σ G8 ⟨w12, w13, rfl, s6⟩
        replace LD := LD.on s6; replace gnl := s6 _ _ gnl; replace h1 := s6 _ _ h1; replace hx := s6 _ _ hx
        clear s6
        -- more names
        refine ⟨ar, dx, _, rfl, h1, lka_no an_by an_so, ?_⟩
        refine .inl ⟨E, _, rfl, SqL.of LD.ev, fun e2 he2 => ?_⟩
        rw [show ((1 : Int)) = ((1 : Nat) : Int) from rfl, cutV_n, ← List.map_take]
        have s9 : Same G8 (upd G8 e2 (.lst (((ps.map Pk.name).take 1).map V.str))) := Same.new he2
        refine .inl ⟨_, _, s9 _ _ gnl, upd_same, by rw [List.length_map, List.length_map, List.length_take, sizeLine_eq]; omega, fun e3 he3 => ?_⟩
        rw [← List.map_append]
        refine ⟨_, .inl ⟨SqL.of upd_same, fun t ht => ?_⟩⟩
        have s10 := s9.trans ((Same.new (o := .lst ((nms ++ (ps.map Pk.name).take 1).map V.str)) he3).trans (Same.new (o := .tup ((nms ++ (ps.map Pk.name).take 1).map V.str)) ht))
        refine ⟨ar, t, nms ++ (ps.map Pk.name).take 1, qs, rfl, (LD.on s10).ar, upd_same, fun n hn => ?_, by rw [List.length_append, List.length_take]; omega, fun x3 ms3 GK s11 hx3 F3 => ?_⟩
        · rcases List.mem_append.mp hn with z | z
          · exact nmq n z
          · exact (hqn n).mpr (List.mem_of_mem_take z)
        have hmore : ∀ m ∈ zs2, m ∈ ms3 := fun m hm => F.least (· ∈ ms3) (fun n hn => F3.inc n (List.mem_append_left _ hn)) F3.cl m hm
        have s12 := s10.trans s11
        replace LD := LD.on s12; replace gnl := s12 _ _ gnl; replace h1 := s12 _ _ h1; replace hx := s12 _ _ hx
        clear s12 s11 s10 s9 ht he3 he2
        refine .inr ⟨x, rfl, ⟨_, SqT.of hx⟩, fun D hD => ?_⟩
        refine lc_fl (walk_tup (xs := zs2.map V.str)) (fun m => decide (m ∉ ms3)) (fun y m H' => ∃ z : Str, y = .str z ∧ z = m) (xs := zs2) (by rw [List.length_map]) (fun y c H3 H4 acc hD3 s3 h => h) hD (by rw [List.length_map]; omega) (fun H3 s4 => SqT.of (s4 _ _ hx)) ?_ ?_
        · rintro j m y H3 H4 Nx Nz em s4 ⟨rfl, hy⟩ k1 k2
          rw [List.getElem?_map, em] at hy
          cases hy
          have hm := hmore m (List.mem_of_getElem? em)
          refine ⟨rfl, ?_⟩
          refine ⟨_, .inr (SqT.of (s4 _ _ hx3)), rfl, flatV_strs _, ?_⟩
          rw [inV_strs, decide_eq_true hm]
          exact k2 (decide_eq_false fun z => z hm) _ (Same.refl _)
        intro GI yv pr s4 hD5
        obtain ⟨vs, rfl, pr'⟩ := valsP pr
        rw [filt_none (fun m hm => decide_eq_false fun z => z (hmore m hm))] at pr'
        cases pr'
        clear pr
        refine ⟨Nat.zero_le _, fun e1 he1 => ?_⟩
        refine .inl (rNe_strs (xs := []) (ys := []) (.inl ⟨SqL.of (upd_new hD5 he1), SqL.of upd_same⟩) ?_)
        refine .fl (by simp) ?_
        have s5 := s4.trans (Same.new (o := .lst []) he1)
        replace LD := LD.on s5; replace gnl := s5 _ _ gnl; replace hx := s5 _ _ hx
        clear s5 s4 hD hD5
        generalize upd GI e1 (HO.lst []) = GL at LD gnl hx ⊢
        -- rounds
        refine ⟨_, SqL.of gnl, by omega, fun rs0 f pm0 srt0 hf => ?_⟩
        refine ⟨by show 2 ≤ sizeLine; decide, fun t0 ht0 => ?_⟩
        refine ⟨t0, _, rfl, SqT.of upd_same, rfl, _, _, rfl, _, _, rfl, rfl, ?_⟩
        have s6 : Same GL (upd (upd GL f (.lst (rs0.map V.str))) t0 (.tup [.int 0, .ref f])) := (Same.new hf).trans (Same.new ht0)
        have gf : (upd (upd GL f (.lst (rs0.map V.str))) t0 (.tup [.int 0, .ref f])) f = some (.lst (rs0.map V.str)) := upd_new upd_same ht0
        have R0 : Rd46 qs nms zs2 rs0 0 := ⟨pm0.nodup_iff.mpr nmd, srt0, fun n hn => pm0.mem_iff.mpr hn, fun y hy => F.inc y (pm0.mem_iff.mp hy), .inr (Nat.zero_le _)⟩
        generalize upd (upd GL f (HO.lst (rs0.map V.str))) t0 (HO.tup [V.int 0, V.ref f]) = GM at s6 gf ⊢
        replace LD := LD.on s6; replace hx := s6 _ _ hx
        clear s6 ht0 hf pm0 srt0 gnl hx3 hmore F3
        refine ⟨fun m σ H' => ∃ (r : Nat) (R : Addr) (rs : List Str) (w12 w13 w14 w18 : Option V), σ = [some (.ref a), some (.int (0 + (i : Int))), some (.ref s), some (.ref p), some (.ref ar), some (.ref E), w6, some (.ref N), some (.int (0 + (j : Int))), some (.ref nl), some (.ref x), some (.ref ul), w12, w13, w14, some (.ref x3), some (.int (r : Int)), some (.ref R), w18] ∧ H' R = some (.lst (rs.map V.str)) ∧ Rd46 qs nms zs2 rs r ∧ Same GM H' ∧ m + r = ps.length + 1,
          ⟨_, 0, f, rs0, _, _, _, _, rfl, gf, R0, Same.refl _, rfl⟩, ?_⟩
        rintro m σ G8 ⟨r, R, rs, w12, w13, w14, w18, rfl, gR, R1, s7, hm⟩
        refine ⟨_, .inl (SqL.of (s7 _ _ LD.ev)), ?_⟩
        rw [List.length_map, List.length_map]
        have rl : rs.length ≤ 10 := by have := nd_le R1.nd fun y hy => F.sub y (R1.sub y hy); rw [List.length_map] at this; omega
        by_cases hr : (r : Int) ≤ (ps.length : Int)
        · refine Eq.mpr (if_pos (c := decide ((r : Int) ≤ (ps.length : Int)) = true) (decide_eq_true hr)) ?_
          refine ⟨fun σ' H' => ∃ m', m' < m ∧ ∃ (r : Nat) (R : Addr) (rs : List Str) (w12 w13 w14 w18 : Option V), σ' = [some (.ref a), some (.int (0 + (i : Int))), some (.ref s), some (.ref p), some (.ref ar), some (.ref E), w6, some (.ref N), some (.int (0 + (j : Int))), some (.ref nl), some (.ref x), some (.ref ul), w12, w13, w14, some (.ref x3), some (.int (r : Int)), some (.ref R), w18] ∧ H' R = some (.lst (rs.map V.str)) ∧ Rd46 qs nms zs2 rs r ∧ Same GM H' ∧ m' + r = ps.length + 1, fun _ _ z => z, ?_⟩
          refine .inl ⟨E, rfl, ⟨_, SqL.of (s7 _ _ LD.ev)⟩, fun D hD => ?_⟩
          obtain ⟨zq, z1, z2, z3⟩ := (LD.on s7).nd
          refine lc_fl (walk_list (K := K) (a := E) (xs := (ps.map Pk.name).map V.str)) (fun u : Pk => decide (u.needs.filter (fun m => decide (m ∈ rs)) ≠ [])) (fun y (u : Pk) H' => ∃ z, y = .str z ∧ z = u.name) (xs := ps) (by rw [List.length_map, List.length_map]) (fun y c H3 H4 acc hD3 s3 h => h) hD (by rw [List.length_map, List.length_map]; omega) (fun H3 s3 => SqL.of (s3 _ _ (s7 _ _ LD.ev))) ?_ ?_
          · rintro c u y H3 H4 Nx Nz er s3 ⟨rfl, hy⟩ k1 k2
            rw [List.getElem?_map, List.getElem?_map, er] at hy
            cases hy
            have hrm := List.mem_of_getElem? er
            obtain ⟨z, hz, ez⟩ := List.mem_map.mp (z1 ▸ hrm : u ∈ zq.map Prod.snd)
            subst ez
            have hv := valV_kv (f := fun z : Addr × Pk => z.2.name) (v := fun z => V.ref z.1) (by
              rw [show (zq.map fun z => z.2.name) = (zq.map Prod.snd).map Pk.name by rw [List.map_map]; rfl, z1]; exact ga.1) hz
            have gz := s3 _ _ (z3 z hz)
            have hn100 := (ga.2 z.2 hrm).2.2.2.1
            refine ⟨rfl, ?_⟩
            refine .inr ⟨_, _, rfl, hv ▸ DGet.k (k := Sum.inr z.2.name) (s3 _ _ z2), ?_⟩
            refine ⟨z.1, rfl, ⟨_, SqT.of gz⟩, fun D2 hD2 => ?_⟩
            refine lc_fl (walk_tup (xs := z.2.needs.map V.str)) (fun m => decide (m ∈ rs)) (fun y m H' => ∃ z : Str, y = .str z ∧ z = m) (xs := z.2.needs) (by rw [List.length_map]) (fun y c H3 H4 acc hD3 s3 h => h) hD2 (by rw [List.length_map]; omega) (fun H3 s4 => SqT.of (s4 _ _ gz)) ?_ ?_
            · rintro j m y H5 H6 Nx Nz em s4 ⟨rfl, hy⟩ k1 k2
              rw [List.getElem?_map, em] at hy
              cases hy
              refine ⟨rfl, ?_⟩
              refine ⟨_, .inl (SqL.of (s4 _ _ (s3 _ _ gR))), rfl, flatV_strs _, ?_⟩
              rw [inV_strs]
              by_cases hm : m ∈ rs
              · rw [decide_eq_true hm]
                exact k1 (decide_eq_true hm) _ _ (Same.refl _) ⟨_, rfl, rfl⟩
              · rw [decide_eq_false hm]
                exact k2 (decide_eq_false hm) _ (Same.refl _)
            intro G9 yv pr s8 hD7
            obtain ⟨vs, rfl, pr'⟩ := valsP pr
            have ev := prd_eqmap (f := id) pr'
            rw [List.map_id] at ev
            subst ev
            refine ⟨Nat.zero_le _, fun e1 he1 => ?_⟩
            have s9 := s8.trans (Same.new (o := .lst []) he1)
            refine .inl (rNe_strs (ys := []) (.inl ⟨SqL.of (upd_new hD7 he1), SqL.of upd_same⟩) ?_)
            by_cases hzf : z.2.needs.filter (fun m => decide (m ∈ rs)) = []
            · rw [decide_eq_true hzf]
              exact k2 (decide_eq_false fun h => h hzf) _ s9
            · rw [decide_eq_false hzf]
              exact k1 (decide_eq_true hzf) _ _ s9 ⟨_, rfl, rfl⟩
          intro G9 yv pr s8 hD9
          obtain ⟨hs2, rfl, pr'⟩ := valsP pr
          obtain rfl := prd_eqmap pr'
          have hmem : ∀ h, h ∈ (ps.filter fun u : Pk => decide (u.needs.filter (fun m => decide (m ∈ rs)) ≠ [])).map Pk.name ↔ ∃ p ∈ qs, p.name = h ∧ ∃ m ∈ p.needs, m ∈ rs := fun h => by
            rw [List.mem_map]
            constructor
            · rintro ⟨u, hu, rfl⟩
              obtain ⟨h1, h2⟩ := List.mem_filter.mp hu
              refine ⟨u, hps.mem_iff.mpr h1, rfl, Classical.byContradiction fun hno => of_decide_eq_true h2 (List.filter_eq_nil_iff.mpr fun m m1 m2 => hno ⟨m, m1, of_decide_eq_true m2⟩)⟩
            · rintro ⟨u, hu, rfl, m, m1, m2⟩
              exact ⟨u, List.mem_filter.mpr ⟨hps.mem_iff.mp hu, decide_eq_true fun e => List.filter_eq_nil_iff.mp e m m1 (decide_eq_true m2)⟩, rfl⟩
          have hfl : ((ps.filter fun u : Pk => decide (u.needs.filter (fun m => decide (m ∈ rs)) ≠ [])).map Pk.name).length ≤ 10 := by
            rw [List.length_map]; exact Nat.le_trans (List.length_filter_le _ _) hpl
          generalize (ps.filter fun u : Pk => decide (u.needs.filter (fun m => decide (m ∈ rs)) ≠ [])).map Pk.name = hs2 at hmem hfl hD9
          refine .inl ⟨_, _, s8 _ _ gR, hD9, by rw [List.length_map, List.length_map, sizeLine_eq]; omega, fun e2 he2 => ?_⟩
          rw [← List.map_append]
          refine ⟨rs ++ hs2, .inl (SqL.of upd_same), ?_, fun p1 ks1 hp1 ndk memk _ => ?_⟩
          · have : (200 : Nat) ≤ scanBound := by decide
            rw [List.length_append]; omega
          have hkl : ks1.length ≤ 20 := by
            have := nd_le ndk fun k hk => (memk k).mp hk
            rw [List.length_append] at this; omega
          refine ⟨_, ks1.length, upd_same, by omega, fun so f2 srt nds mems hls hf2 => ?_⟩
          have s9 := s8.trans ((Same.new (o := .lst ((rs ++ hs2).map V.str)) he2).trans ((Same.new hp1).trans (Same.new (o := .lst (so.map V.str)) hf2)))
          refine ⟨m - 1, by omega, r + 1, f2, so, _, _, _, _, rfl, upd_same, Rd46.step F R1 hmem nds srt fun k => (mems k).trans decide_eq_true_iff, s7.trans s9, by omega⟩
        · refine Eq.mpr (if_neg (c := decide ((r : Int) ≤ (ps.length : Int)) = true) (by rw [decide_eq_false hr]; exact Bool.false_ne_true)) ?_
          have e := R1.done F (by rw [hps.length_eq]; omega)
          subst e
          refine ⟨_, .inr (SqT.of (s7 _ _ hx)), fun l hl => ?_⟩
          refine .inl (rNe_strs (.inl ⟨SqL.of (upd_new gR hl), SqL.of upd_same⟩) ?_)
          refine .fl (by simp) ?_
          exact ⟨_, _, _, _, _, _, _, _, _, _, _, _, rfl, (LD.on s7).on (Same.new hl)⟩
      · rintro σ H8 ⟨w6, w8, w9, w10, w11, w12, w13, w14, w15, w16, w17, w18, rfl, L⟩
        exact ⟨_, _, _, _, _, _, _, _, _, _, _, _, _, _, _, _, _, _, rfl, s1.trans fun b o hb => L.same b o (ne_of_none hb hs) hb, .inr ⟨ar, qs, rfl, L.ar⟩⟩
    · rintro σ H1 ⟨u1, u2, u3, u4, u5, u6, u7, u8, u9, u10, u11, u12, u13, u14, u15, u16, u17, u18, rfl, s1, hi⟩
      obtain ⟨ar, ps, rfl, A⟩ := hi.resolve_left (by omega)
      obtain ⟨dx, dd, sq, as, h1, _⟩ := id A
      refine ⟨ar, dx, _, rfl, h1, lka_no an_by an_so, ?_⟩
      refine ⟨Nat.zero_le _, fun t ht => ?_⟩
      have s2 : Same H1 (upd H1 t (.tup [])) := Same.new ht
      refine ⟨ar, t, [], ps, rfl, A.same s2, upd_same, fun _ h => (nomatch h), by decide, fun x ys H2 s3 hx F => ?_⟩
      refine ⟨Nat.zero_le _, fun t2 ht2 => ?_⟩
      have e : ys = [] := List.eq_nil_iff_forall_not_mem.mpr fun y hy => (F.least (fun _ => False) (fun _ h => nomatch h) (fun _ _ ⟨_, _, z⟩ => z) y hy)
      subst e
      refine .inl (rEq_strs (xs := []) (ys := []) (.inr ⟨SqT.of (upd_new hx ht2), SqT.of upd_same⟩) ?_)
      exact q _
end
end Toy

namespace Toy
open PySem L2
theorem all_mk {K : PySem.W.Frag} {h : Heap} {mg : Str → Option Value} {fa : Addr} (X : K.In h) (G : h.Ns mainGlobals mg) (hfa : mg "law" = some (.ref fa))
    {c_SourceError c_BadName c_BadArchive c_Package c_Archive : Addr}
    {f_BadArchive_XinitX : Addr} {od_BadArchive_XinitX an_BadArchive_XinitX : Option Addr} {sl_BadArchive_XinitX : Array (Option Value)} {oc_BadArchive_XinitX kV_BadArchive_XinitX dc_BadArchive_XinitX pm_BadArchive_XinitX cd_BadArchive_XinitX ct_BadArchive_XinitX : Value}
    {f_is_word : Addr} {od_is_word an_is_word : Option Addr} {sl_is_word : Array (Option Value)} {oc_is_word kV_is_word dc_is_word pm_is_word cd_is_word ct_is_word : Value}
    {f_is_name : Addr} {od_is_name an_is_name : Option Addr} {sl_is_name : Array (Option Value)} {oc_is_name kV_is_name dc_is_name pm_is_name cd_is_name ct_is_name : Value}
    {f_Package_XinitX : Addr} {od_Package_XinitX an_Package_XinitX : Option Addr} {sl_Package_XinitX : Array (Option Value)} {oc_Package_XinitX kV_Package_XinitX dc_Package_XinitX pm_Package_XinitX cd_Package_XinitX ct_Package_XinitX : Value}
    {f_Archive_XinitX : Addr} {od_Archive_XinitX an_Archive_XinitX : Option Addr} {sl_Archive_XinitX : Array (Option Value)} {oc_Archive_XinitX kV_Archive_XinitX dc_Archive_XinitX pm_Archive_XinitX cd_Archive_XinitX ct_Archive_XinitX : Value}
    {f_Archive_of : Addr} {od_Archive_of an_Archive_of : Option Addr} {sl_Archive_of : Array (Option Value)} {oc_Archive_of kV_Archive_of dc_Archive_of pm_Archive_of cd_Archive_of ct_Archive_of : Value}
    {p_Archive_of : Addr} {rs_Archive_of : List Value}
    {f_Archive_package : Addr} {od_Archive_package an_Archive_package : Option Addr} {sl_Archive_package : Array (Option Value)} {oc_Archive_package kV_Archive_package dc_Archive_package pm_Archive_package cd_Archive_package ct_Archive_package : Value}
    {f_Archive_check_names : Addr} {od_Archive_check_names an_Archive_check_names : Option Addr} {sl_Archive_check_names : Array (Option Value)} {oc_Archive_check_names kV_Archive_check_names dc_Archive_check_names pm_Archive_check_names cd_Archive_check_names ct_Archive_check_names : Value}
    {f_Archive_affected : Addr} {od_Archive_affected an_Archive_affected : Option Addr} {sl_Archive_affected : Array (Option Value)} {oc_Archive_affected kV_Archive_affected dc_Archive_affected pm_Archive_affected cd_Archive_affected ct_Archive_affected : Value}
    {f_law_source : Addr} {od_law_source an_law_source : Option Addr} {sl_law_source : Array (Option Value)} {oc_law_source kV_law_source dc_law_source pm_law_source cd_law_source ct_law_source : Value}
    {f_law_draw : Addr} {od_law_draw an_law_draw : Option Addr} {sl_law_draw : Array (Option Value)} {oc_law_draw kV_law_draw dc_law_draw pm_law_draw cd_law_draw ct_law_draw : Value}
    {f_law_shuffled : Addr} {od_law_shuffled an_law_shuffled : Option Addr} {sl_law_shuffled : Array (Option Value)} {oc_law_shuffled kV_law_shuffled dc_law_shuffled pm_law_shuffled cd_law_shuffled ct_law_shuffled : Value}
    {f_law_drawn_packages : Addr} {od_law_drawn_packages an_law_drawn_packages : Option Addr} {sl_law_drawn_packages : Array (Option Value)} {oc_law_drawn_packages kV_law_drawn_packages dc_law_drawn_packages pm_law_drawn_packages cd_law_drawn_packages ct_law_drawn_packages : Value}
    {f_law_made_archive : Addr} {od_law_made_archive an_law_made_archive : Option Addr} {sl_law_made_archive : Array (Option Value)} {oc_law_made_archive kV_law_made_archive dc_law_made_archive pm_law_made_archive cd_law_made_archive ct_law_made_archive : Value}
    {f_law : Addr} {od_law an_law : Option Addr} {sl_law : Array (Option Value)} {oc_law kV_law dc_law pm_law cd_law ct_law : Value}
    {u_LETTERS : Value}
    {u_MOST_LETTERS : Value}
    (zall : PySem.W.nsIn K mainGlobals "all" = some none)
    (zdict : PySem.W.nsIn K mainGlobals "dict" = some none)
    (zlen : PySem.W.nsIn K mainGlobals "len" = some none)
    (zlist : PySem.W.nsIn K mainGlobals "list" = some none)
    (zmax : PySem.W.nsIn K mainGlobals "max" = some none)
    (zmin : PySem.W.nsIn K mainGlobals "min" = some none)
    (zrange : PySem.W.nsIn K mainGlobals "range" = some none)
    (zset : PySem.W.nsIn K mainGlobals "set" = some none)
    (zsorted : PySem.W.nsIn K mainGlobals "sorted" = some none)
    (ztuple : PySem.W.nsIn K mainGlobals "tuple" = some none)
    (hnx : PySem.W.specialIn K (.builtin "object.__class__") "__get__" = some (some (.builtin "getset_descriptor.__get__")))
    (tkx : PySem.W.takesIn K (.builtin "object.__class__") = some true)
    (mgx_Package : PySem.W.nsIn K mainGlobals "Package" = some (some (.ref c_Package)))
    (pg_Package : PySem.W.plainGet K c_Package Str.empty = true)
    (hd_Package : PySem.W.hasDictIn K c_Package = true)
    (po_Package : PySem.W.plainOver K c_Package = true)
    (sa_Package : PySem.W.findIn K (.ref c_Package) "__setattr__" = some (some (.builtin "object.__setattr__")))
    (oc_Package : PySem.W.findIn K (.ref c_Package) "__class__" = some (some (.builtin "object.__class__")))
    (om_Package : PySem.W.mroIn K c_Package (.type "object") = some true)
    (ic_Package : PySem.W.isClsIn K c_Package = true)
    (tc_Package : PySem.W.typeIn K (.ref c_Package) = some (.type "type"))
    (mk1_Package : PySem.W.makesIn K c_Package = true)
    (kc_Package : PySem.W.keepIn K (.ref c_Package) = true)
    (na_Package_name : PySem.W.findIn K (.ref c_Package) "name" = some none)
    (na_Package_needs : PySem.W.findIn K (.ref c_Package) "needs" = some none)
    (na_Package_staged : PySem.W.findIn K (.ref c_Package) "staged" = some none)
    (mgx_Archive : PySem.W.nsIn K mainGlobals "Archive" = some (some (.ref c_Archive)))
    (pg_Archive : PySem.W.plainGet K c_Archive Str.empty = true)
    (hd_Archive : PySem.W.hasDictIn K c_Archive = true)
    (po_Archive : PySem.W.plainOver K c_Archive = true)
    (sa_Archive : PySem.W.findIn K (.ref c_Archive) "__setattr__" = some (some (.builtin "object.__setattr__")))
    (oc_Archive : PySem.W.findIn K (.ref c_Archive) "__class__" = some (some (.builtin "object.__class__")))
    (om_Archive : PySem.W.mroIn K c_Archive (.type "object") = some true)
    (ic_Archive : PySem.W.isClsIn K c_Archive = true)
    (tc_Archive : PySem.W.typeIn K (.ref c_Archive) = some (.type "type"))
    (mk1_Archive : PySem.W.makesIn K c_Archive = true)
    (kc_Archive : PySem.W.keepIn K (.ref c_Archive) = true)
    (rd_Archive : PySem.W.readsIn K c_Archive (.type "type") = true)
    (rg_Archive : PySem.W.specialIn K (.ref c_Archive) "__getattribute__" = some (some (.builtin "type.__getattribute__")))
    (na_Archive_by_name : PySem.W.findIn K (.ref c_Archive) "by_name" = some none)
    (na_Archive_sorted_names : PySem.W.findIn K (.ref c_Archive) "sorted_names" = some none)
    (mgx_BadName : PySem.W.nsIn K mainGlobals "BadName" = some (some (.ref c_BadName)))
    (mgx_SourceError : PySem.W.nsIn K mainGlobals "SourceError" = some (some (.ref c_SourceError)))
    (rd_SourceError : PySem.W.readsIn K c_SourceError (.type "type") = true)
    (rg_SourceError : PySem.W.specialIn K (.ref c_SourceError) "__getattribute__" = some (some (.builtin "type.__getattribute__")))
    (ri_SourceError : PySem.W.findCls K (.ref c_SourceError) (.type "type") "__init__" = some (.val (.builtin "ValueError.__init__")))
    (mgx_BadArchive : PySem.W.nsIn K mainGlobals "BadArchive" = some (some (.ref c_BadArchive)))
    (ox_BadArchive : OxC K c_BadArchive)
    (na_BadArchive_name : PySem.W.findIn K (.ref c_BadArchive) "name" = some none)
    (a_BadArchive_XinitX : PySem.W.findIn K (.ref c_BadArchive) "__init__" = some (some (.ref f_BadArchive_XinitX)))
    (l_BadArchive_XinitX : K.lookup f_BadArchive_XinitX = some ⟨oc_BadArchive_XinitX, od_BadArchive_XinitX, .func (PySem.W.fnOf "__init__" "BadArchive.__init__" (defArgs s_BadArchive_XinitX) (defBody s_BadArchive_XinitX) (defScope s_BadArchive_XinitX) .none kV_BadArchive_XinitX dc_BadArchive_XinitX pm_BadArchive_XinitX an_BadArchive_XinitX cd_BadArchive_XinitX ct_BadArchive_XinitX), sl_BadArchive_XinitX⟩)
    (c_BadArchive_XinitX : PySem.W.codeIn K cd_BadArchive_XinitX "BadArchive.__init__" = true)
    (k_BadArchive_XinitX : PySem.W.keepIn K (.ref f_BadArchive_XinitX) = true)
    (fn_BadArchive_XinitX : PySem.W.isFn K (.ref f_BadArchive_XinitX) = true)
    (fi_BadArchive_XinitX : PySem.W.fnIn K f_BadArchive_XinitX = true)
    (a_is_word : PySem.W.nsIn K mainGlobals "is_word" = some (some (.ref f_is_word)))
    (l_is_word : K.lookup f_is_word = some ⟨oc_is_word, od_is_word, .func (PySem.W.fnOf "is_word" "is_word" (defArgs s_is_word) (defBody s_is_word) (defScope s_is_word) .none kV_is_word dc_is_word pm_is_word an_is_word cd_is_word ct_is_word), sl_is_word⟩)
    (c_is_word : PySem.W.codeIn K cd_is_word "is_word" = true)
    (k_is_word : PySem.W.keepIn K (.ref f_is_word) = true)
    (a_is_name : PySem.W.nsIn K mainGlobals "is_name" = some (some (.ref f_is_name)))
    (l_is_name : K.lookup f_is_name = some ⟨oc_is_name, od_is_name, .func (PySem.W.fnOf "is_name" "is_name" (defArgs s_is_name) (defBody s_is_name) (defScope s_is_name) .none kV_is_name dc_is_name pm_is_name an_is_name cd_is_name ct_is_name), sl_is_name⟩)
    (c_is_name : PySem.W.codeIn K cd_is_name "is_name" = true)
    (k_is_name : PySem.W.keepIn K (.ref f_is_name) = true)
    (a_Package_XinitX : PySem.W.findIn K (.ref c_Package) "__init__" = some (some (.ref f_Package_XinitX)))
    (l_Package_XinitX : K.lookup f_Package_XinitX = some ⟨oc_Package_XinitX, od_Package_XinitX, .func (PySem.W.fnOf "__init__" "Package.__init__" (defArgs s_Package_XinitX) (defBody s_Package_XinitX) (defScope s_Package_XinitX) .none kV_Package_XinitX dc_Package_XinitX pm_Package_XinitX an_Package_XinitX cd_Package_XinitX ct_Package_XinitX), sl_Package_XinitX⟩)
    (c_Package_XinitX : PySem.W.codeIn K cd_Package_XinitX "Package.__init__" = true)
    (k_Package_XinitX : PySem.W.keepIn K (.ref f_Package_XinitX) = true)
    (fn_Package_XinitX : PySem.W.isFn K (.ref f_Package_XinitX) = true)
    (fi_Package_XinitX : PySem.W.fnIn K f_Package_XinitX = true)
    (a_Archive_XinitX : PySem.W.findIn K (.ref c_Archive) "__init__" = some (some (.ref f_Archive_XinitX)))
    (l_Archive_XinitX : K.lookup f_Archive_XinitX = some ⟨oc_Archive_XinitX, od_Archive_XinitX, .func (PySem.W.fnOf "__init__" "Archive.__init__" (defArgs s_Archive_XinitX) (defBody s_Archive_XinitX) (defScope s_Archive_XinitX) .none kV_Archive_XinitX dc_Archive_XinitX pm_Archive_XinitX an_Archive_XinitX cd_Archive_XinitX ct_Archive_XinitX), sl_Archive_XinitX⟩)
    (c_Archive_XinitX : PySem.W.codeIn K cd_Archive_XinitX "Archive.__init__" = true)
    (k_Archive_XinitX : PySem.W.keepIn K (.ref f_Archive_XinitX) = true)
    (fn_Archive_XinitX : PySem.W.isFn K (.ref f_Archive_XinitX) = true)
    (fi_Archive_XinitX : PySem.W.fnIn K f_Archive_XinitX = true)
    (a_Archive_of : PySem.W.findCls K (.ref c_Archive) (.type "type") "of" = some (.get (.builtin "classmethod.__get__") (.ref p_Archive_of) .none (.ref c_Archive)))
    (pg3_Archive_of : PySem.W.recIn K p_Archive_of "classmethod" = some (.ref f_Archive_of :: rs_Archive_of))
    (l_Archive_of : K.lookup f_Archive_of = some ⟨oc_Archive_of, od_Archive_of, .func (PySem.W.fnOf "of" "Archive.of" (defArgs s_Archive_of) (defBody s_Archive_of) (defScope s_Archive_of) .none kV_Archive_of dc_Archive_of pm_Archive_of an_Archive_of cd_Archive_of ct_Archive_of), sl_Archive_of⟩)
    (c_Archive_of : PySem.W.codeIn K cd_Archive_of "Archive.of" = true)
    (k_Archive_of : PySem.W.keepIn K (.ref f_Archive_of) = true)
    (fn_Archive_of : PySem.W.isFn K (.ref f_Archive_of) = true)
    (fi_Archive_of : PySem.W.fnIn K f_Archive_of = true)
    (a_Archive_package : PySem.W.findIn K (.ref c_Archive) "package" = some (some (.ref f_Archive_package)))
    (l_Archive_package : K.lookup f_Archive_package = some ⟨oc_Archive_package, od_Archive_package, .func (PySem.W.fnOf "package" "Archive.package" (defArgs s_Archive_package) (defBody s_Archive_package) (defScope s_Archive_package) .none kV_Archive_package dc_Archive_package pm_Archive_package an_Archive_package cd_Archive_package ct_Archive_package), sl_Archive_package⟩)
    (c_Archive_package : PySem.W.codeIn K cd_Archive_package "Archive.package" = true)
    (k_Archive_package : PySem.W.keepIn K (.ref f_Archive_package) = true)
    (fn_Archive_package : PySem.W.isFn K (.ref f_Archive_package) = true)
    (fi_Archive_package : PySem.W.fnIn K f_Archive_package = true)
    (a_Archive_check_names : PySem.W.findIn K (.ref c_Archive) "check_names" = some (some (.ref f_Archive_check_names)))
    (l_Archive_check_names : K.lookup f_Archive_check_names = some ⟨oc_Archive_check_names, od_Archive_check_names, .func (PySem.W.fnOf "check_names" "Archive.check_names" (defArgs s_Archive_check_names) (defBody s_Archive_check_names) (defScope s_Archive_check_names) .none kV_Archive_check_names dc_Archive_check_names pm_Archive_check_names an_Archive_check_names cd_Archive_check_names ct_Archive_check_names), sl_Archive_check_names⟩)
    (c_Archive_check_names : PySem.W.codeIn K cd_Archive_check_names "Archive.check_names" = true)
    (k_Archive_check_names : PySem.W.keepIn K (.ref f_Archive_check_names) = true)
    (fn_Archive_check_names : PySem.W.isFn K (.ref f_Archive_check_names) = true)
    (fi_Archive_check_names : PySem.W.fnIn K f_Archive_check_names = true)
    (a_Archive_affected : PySem.W.findIn K (.ref c_Archive) "affected" = some (some (.ref f_Archive_affected)))
    (l_Archive_affected : K.lookup f_Archive_affected = some ⟨oc_Archive_affected, od_Archive_affected, .func (PySem.W.fnOf "affected" "Archive.affected" (defArgs s_Archive_affected) (defBody s_Archive_affected) (defScope s_Archive_affected) .none kV_Archive_affected dc_Archive_affected pm_Archive_affected an_Archive_affected cd_Archive_affected ct_Archive_affected), sl_Archive_affected⟩)
    (c_Archive_affected : PySem.W.codeIn K cd_Archive_affected "Archive.affected" = true)
    (k_Archive_affected : PySem.W.keepIn K (.ref f_Archive_affected) = true)
    (fn_Archive_affected : PySem.W.isFn K (.ref f_Archive_affected) = true)
    (fi_Archive_affected : PySem.W.fnIn K f_Archive_affected = true)
    (a_law_source : PySem.W.nsIn K mainGlobals "_law_source" = some (some (.ref f_law_source)))
    (l_law_source : K.lookup f_law_source = some ⟨oc_law_source, od_law_source, .func (PySem.W.fnOf "_law_source" "_law_source" (defArgs s_law_source) (defBody s_law_source) (defScope s_law_source) .none kV_law_source dc_law_source pm_law_source an_law_source cd_law_source ct_law_source), sl_law_source⟩)
    (c_law_source : PySem.W.codeIn K cd_law_source "_law_source" = true)
    (k_law_source : PySem.W.keepIn K (.ref f_law_source) = true)
    (a_law_draw : PySem.W.nsIn K mainGlobals "_law_draw" = some (some (.ref f_law_draw)))
    (l_law_draw : K.lookup f_law_draw = some ⟨oc_law_draw, od_law_draw, .func (PySem.W.fnOf "_law_draw" "_law_draw" (defArgs s_law_draw) (defBody s_law_draw) (defScope s_law_draw) .none kV_law_draw dc_law_draw pm_law_draw an_law_draw cd_law_draw ct_law_draw), sl_law_draw⟩)
    (c_law_draw : PySem.W.codeIn K cd_law_draw "_law_draw" = true)
    (k_law_draw : PySem.W.keepIn K (.ref f_law_draw) = true)
    (a_law_shuffled : PySem.W.nsIn K mainGlobals "_law_shuffled" = some (some (.ref f_law_shuffled)))
    (l_law_shuffled : K.lookup f_law_shuffled = some ⟨oc_law_shuffled, od_law_shuffled, .func (PySem.W.fnOf "_law_shuffled" "_law_shuffled" (defArgs s_law_shuffled) (defBody s_law_shuffled) (defScope s_law_shuffled) .none kV_law_shuffled dc_law_shuffled pm_law_shuffled an_law_shuffled cd_law_shuffled ct_law_shuffled), sl_law_shuffled⟩)
    (c_law_shuffled : PySem.W.codeIn K cd_law_shuffled "_law_shuffled" = true)
    (k_law_shuffled : PySem.W.keepIn K (.ref f_law_shuffled) = true)
    (a_law_drawn_packages : PySem.W.nsIn K mainGlobals "_law_drawn_packages" = some (some (.ref f_law_drawn_packages)))
    (l_law_drawn_packages : K.lookup f_law_drawn_packages = some ⟨oc_law_drawn_packages, od_law_drawn_packages, .func (PySem.W.fnOf "_law_drawn_packages" "_law_drawn_packages" (defArgs s_law_drawn_packages) (defBody s_law_drawn_packages) (defScope s_law_drawn_packages) .none kV_law_drawn_packages dc_law_drawn_packages pm_law_drawn_packages an_law_drawn_packages cd_law_drawn_packages ct_law_drawn_packages), sl_law_drawn_packages⟩)
    (c_law_drawn_packages : PySem.W.codeIn K cd_law_drawn_packages "_law_drawn_packages" = true)
    (k_law_drawn_packages : PySem.W.keepIn K (.ref f_law_drawn_packages) = true)
    (a_law_made_archive : PySem.W.nsIn K mainGlobals "_law_made_archive" = some (some (.ref f_law_made_archive)))
    (l_law_made_archive : K.lookup f_law_made_archive = some ⟨oc_law_made_archive, od_law_made_archive, .func (PySem.W.fnOf "_law_made_archive" "_law_made_archive" (defArgs s_law_made_archive) (defBody s_law_made_archive) (defScope s_law_made_archive) .none kV_law_made_archive dc_law_made_archive pm_law_made_archive an_law_made_archive cd_law_made_archive ct_law_made_archive), sl_law_made_archive⟩)
    (c_law_made_archive : PySem.W.codeIn K cd_law_made_archive "_law_made_archive" = true)
    (k_law_made_archive : PySem.W.keepIn K (.ref f_law_made_archive) = true)
    (a_law : PySem.W.nsIn K mainGlobals "law" = some (some (.ref f_law)))
    (l_law : K.lookup f_law = some ⟨oc_law, od_law, .func (PySem.W.fnOf "law" "law" (defArgs s_law) (defBody s_law) (defScope s_law) .none kV_law dc_law pm_law an_law cd_law ct_law), sl_law⟩)
    (c_law : PySem.W.codeIn K cd_law "law" = true)
    (k_law : PySem.W.keepIn K (.ref f_law) = true)
    (gz_LETTERS : PySem.W.nsIn K mainGlobals "LETTERS" = some (some u_LETTERS))
    (gr_LETTERS : RelV (.str "abcdefghijklmnopqrstuvwxyz") u_LETTERS)
    (gz_MOST_LETTERS : PySem.W.nsIn K mainGlobals "MOST_LETTERS" = some (some u_MOST_LETTERS))
    (gr_MOST_LETTERS : RelV (.int 12) u_MOST_LETTERS) :
    ∃ ad : Ad, Txt PySem.Challenge.pw_sourcequeue_k46_whole_affected K mg ad ∧ ad.a_law = fa := by
  have e : fa = f_law := Value.ref.inj (Option.some.inj (hfa.symm.trans (PySem.W.mg_of X G a_law)))
  refine ⟨{ c_SourceError := c_SourceError, c_BadName := c_BadName, c_BadArchive := c_BadArchive, c_Package := c_Package, c_Archive := c_Archive, a_BadArchive_XinitX := f_BadArchive_XinitX, d_BadArchive_XinitX := PySem.W.fnOf "__init__" "BadArchive.__init__" (defArgs s_BadArchive_XinitX) (defBody s_BadArchive_XinitX) (defScope s_BadArchive_XinitX) .none kV_BadArchive_XinitX dc_BadArchive_XinitX pm_BadArchive_XinitX an_BadArchive_XinitX cd_BadArchive_XinitX ct_BadArchive_XinitX, a_is_word := f_is_word, d_is_word := PySem.W.fnOf "is_word" "is_word" (defArgs s_is_word) (defBody s_is_word) (defScope s_is_word) .none kV_is_word dc_is_word pm_is_word an_is_word cd_is_word ct_is_word, a_is_name := f_is_name, d_is_name := PySem.W.fnOf "is_name" "is_name" (defArgs s_is_name) (defBody s_is_name) (defScope s_is_name) .none kV_is_name dc_is_name pm_is_name an_is_name cd_is_name ct_is_name, a_Package_XinitX := f_Package_XinitX, d_Package_XinitX := PySem.W.fnOf "__init__" "Package.__init__" (defArgs s_Package_XinitX) (defBody s_Package_XinitX) (defScope s_Package_XinitX) .none kV_Package_XinitX dc_Package_XinitX pm_Package_XinitX an_Package_XinitX cd_Package_XinitX ct_Package_XinitX, a_Archive_XinitX := f_Archive_XinitX, d_Archive_XinitX := PySem.W.fnOf "__init__" "Archive.__init__" (defArgs s_Archive_XinitX) (defBody s_Archive_XinitX) (defScope s_Archive_XinitX) .none kV_Archive_XinitX dc_Archive_XinitX pm_Archive_XinitX an_Archive_XinitX cd_Archive_XinitX ct_Archive_XinitX, a_Archive_of := f_Archive_of, d_Archive_of := PySem.W.fnOf "of" "Archive.of" (defArgs s_Archive_of) (defBody s_Archive_of) (defScope s_Archive_of) .none kV_Archive_of dc_Archive_of pm_Archive_of an_Archive_of cd_Archive_of ct_Archive_of, a_Archive_package := f_Archive_package, d_Archive_package := PySem.W.fnOf "package" "Archive.package" (defArgs s_Archive_package) (defBody s_Archive_package) (defScope s_Archive_package) .none kV_Archive_package dc_Archive_package pm_Archive_package an_Archive_package cd_Archive_package ct_Archive_package, a_Archive_check_names := f_Archive_check_names, d_Archive_check_names := PySem.W.fnOf "check_names" "Archive.check_names" (defArgs s_Archive_check_names) (defBody s_Archive_check_names) (defScope s_Archive_check_names) .none kV_Archive_check_names dc_Archive_check_names pm_Archive_check_names an_Archive_check_names cd_Archive_check_names ct_Archive_check_names, a_Archive_affected := f_Archive_affected, d_Archive_affected := PySem.W.fnOf "affected" "Archive.affected" (defArgs s_Archive_affected) (defBody s_Archive_affected) (defScope s_Archive_affected) .none kV_Archive_affected dc_Archive_affected pm_Archive_affected an_Archive_affected cd_Archive_affected ct_Archive_affected, a_law_source := f_law_source, d_law_source := PySem.W.fnOf "_law_source" "_law_source" (defArgs s_law_source) (defBody s_law_source) (defScope s_law_source) .none kV_law_source dc_law_source pm_law_source an_law_source cd_law_source ct_law_source, a_law_draw := f_law_draw, d_law_draw := PySem.W.fnOf "_law_draw" "_law_draw" (defArgs s_law_draw) (defBody s_law_draw) (defScope s_law_draw) .none kV_law_draw dc_law_draw pm_law_draw an_law_draw cd_law_draw ct_law_draw, a_law_shuffled := f_law_shuffled, d_law_shuffled := PySem.W.fnOf "_law_shuffled" "_law_shuffled" (defArgs s_law_shuffled) (defBody s_law_shuffled) (defScope s_law_shuffled) .none kV_law_shuffled dc_law_shuffled pm_law_shuffled an_law_shuffled cd_law_shuffled ct_law_shuffled, a_law_drawn_packages := f_law_drawn_packages, d_law_drawn_packages := PySem.W.fnOf "_law_drawn_packages" "_law_drawn_packages" (defArgs s_law_drawn_packages) (defBody s_law_drawn_packages) (defScope s_law_drawn_packages) .none kV_law_drawn_packages dc_law_drawn_packages pm_law_drawn_packages an_law_drawn_packages cd_law_drawn_packages ct_law_drawn_packages, a_law_made_archive := f_law_made_archive, d_law_made_archive := PySem.W.fnOf "_law_made_archive" "_law_made_archive" (defArgs s_law_made_archive) (defBody s_law_made_archive) (defScope s_law_made_archive) .none kV_law_made_archive dc_law_made_archive pm_law_made_archive an_law_made_archive cd_law_made_archive ct_law_made_archive, a_law := f_law, d_law := PySem.W.fnOf "law" "law" (defArgs s_law) (defBody s_law) (defScope s_law) .none kV_law dc_law pm_law an_law cd_law ct_law, p_Archive_of := p_Archive_of }, ?_, e.symm⟩
  exact {
    n_all := PySem.W.mg_none_of X G zall,
    n_dict := PySem.W.mg_none_of X G zdict,
    n_len := PySem.W.mg_none_of X G zlen,
    n_list := PySem.W.mg_none_of X G zlist,
    n_max := PySem.W.mg_none_of X G zmax,
    n_min := PySem.W.mg_none_of X G zmin,
    n_range := PySem.W.mg_none_of X G zrange,
    n_set := PySem.W.mg_none_of X G zset,
    n_sorted := PySem.W.mg_none_of X G zsorted,
    n_tuple := PySem.W.mg_none_of X G ztuple,
    hnx := hnx,
    tkx := tkx,
    mg_BadName := PySem.W.mg_of X G mgx_BadName,
    mg_SourceError := PySem.W.mg_of X G mgx_SourceError,
    bi_SourceError := ⟨⟨rd_SourceError, rg_SourceError⟩, ri_SourceError⟩,
    mg_BadArchive := PySem.W.mg_of X G mgx_BadArchive,
    ox_BadArchive := ox_BadArchive.mkF hnx tkx a_BadArchive_XinitX fn_BadArchive_XinitX,
    na_BadArchive_name := na_BadArchive_name,
    mg_Package := PySem.W.mg_of X G mgx_Package,
    cl_Package := ⟨⟨pg_Package, hd_Package, po_Package, sa_Package⟩, oc_Package, hnx, tkx, om_Package, ic_Package, tc_Package⟩,
    mk_Package := ⟨mk1_Package, a_Package_XinitX, fn_Package_XinitX, kc_Package⟩,
    na_Package_name := na_Package_name,
    na_Package_needs := na_Package_needs,
    na_Package_staged := na_Package_staged,
    me_Package_XinitX := ⟨a_Package_XinitX, fn_Package_XinitX, k_Package_XinitX⟩,
    mg_Archive := PySem.W.mg_of X G mgx_Archive,
    cl_Archive := ⟨⟨pg_Archive, hd_Archive, po_Archive, sa_Archive⟩, oc_Archive, hnx, tkx, om_Archive, ic_Archive, tc_Archive⟩,
    mk_Archive := ⟨mk1_Archive, a_Archive_XinitX, fn_Archive_XinitX, kc_Archive⟩,
    na_Archive_by_name := na_Archive_by_name,
    na_Archive_sorted_names := na_Archive_sorted_names,
    me_Archive_XinitX := ⟨a_Archive_XinitX, fn_Archive_XinitX, k_Archive_XinitX⟩,
    cm_Archive_of := ⟨a_Archive_of, ⟨_, pg3_Archive_of⟩, fi_Archive_of⟩,
    me_Archive_package := ⟨a_Archive_package, fn_Archive_package, k_Archive_package⟩,
    me_Archive_check_names := ⟨a_Archive_check_names, fn_Archive_check_names, k_Archive_check_names⟩,
    me_Archive_affected := ⟨a_Archive_affected, fn_Archive_affected, k_Archive_affected⟩,
    cr_Archive := ⟨rd_Archive, rg_Archive⟩,
    f_BadArchive_XinitX := fun_mk (st := s_BadArchive_XinitX) l_BadArchive_XinitX c_BadArchive_XinitX k_BadArchive_XinitX,
    b_BadArchive_XinitX := (fun_mk (st := s_BadArchive_XinitX) l_BadArchive_XinitX c_BadArchive_XinitX k_BadArchive_XinitX).binds (ps := ["self", "name"]) fun _ _ _ _ _ _ us hl => match us, hl with | [_, _], _ => rfl,
    fn_BadArchive_XinitX := fn_BadArchive_XinitX,
    fi_BadArchive_XinitX := fi_BadArchive_XinitX,
    k_BadArchive_XinitX := k_BadArchive_XinitX,
    f_is_word := fun_mk (st := s_is_word) l_is_word c_is_word k_is_word,
    b_is_word := (fun_mk (st := s_is_word) l_is_word c_is_word k_is_word).binds (ps := ["text", "most"]) fun _ _ _ _ _ _ us hl => match us, hl with | [_, _], _ => rfl,
    m_is_word := PySem.W.mg_of X G a_is_word,
    k_is_word := k_is_word,
    f_is_name := fun_mk (st := s_is_name) l_is_name c_is_name k_is_name,
    b_is_name := (fun_mk (st := s_is_name) l_is_name c_is_name k_is_name).binds (ps := ["text"]) fun _ _ _ _ _ _ us hl => match us, hl with | [_], _ => rfl,
    m_is_name := PySem.W.mg_of X G a_is_name,
    k_is_name := k_is_name,
    f_Package_XinitX := fun_mk (st := s_Package_XinitX) l_Package_XinitX c_Package_XinitX k_Package_XinitX,
    b_Package_XinitX := (fun_mk (st := s_Package_XinitX) l_Package_XinitX c_Package_XinitX k_Package_XinitX).binds (ps := ["self", "name", "needs", "staged"]) fun _ _ _ _ _ _ us hl => match us, hl with | [_, _, _, _], _ => rfl,
    fn_Package_XinitX := fn_Package_XinitX,
    fi_Package_XinitX := fi_Package_XinitX,
    k_Package_XinitX := k_Package_XinitX,
    f_Archive_XinitX := fun_mk (st := s_Archive_XinitX) l_Archive_XinitX c_Archive_XinitX k_Archive_XinitX,
    b_Archive_XinitX := StX.bind_star1 (B := fun us => bindArgs (PySem.W.fnOf "__init__" "Archive.__init__" (defArgs s_Archive_XinitX) (defBody s_Archive_XinitX) (defScope s_Archive_XinitX) .none kV_Archive_XinitX dc_Archive_XinitX pm_Archive_XinitX an_Archive_XinitX cd_Archive_XinitX ct_Archive_XinitX) ⟨us, []⟩) (p1 := "self") (pv := "packages") (fun a => rfl) (fun a r rs => rfl),
    fn_Archive_XinitX := fn_Archive_XinitX,
    fi_Archive_XinitX := fi_Archive_XinitX,
    k_Archive_XinitX := k_Archive_XinitX,
    f_Archive_of := fun_mk (st := s_Archive_of) l_Archive_of c_Archive_of k_Archive_of,
    b_Archive_of := (fun_mk (st := s_Archive_of) l_Archive_of c_Archive_of k_Archive_of).binds (ps := ["cls", "packages"]) fun _ _ _ _ _ _ us hl => match us, hl with | [_, _], _ => rfl,
    fn_Archive_of := fn_Archive_of,
    fi_Archive_of := fi_Archive_of,
    k_Archive_of := k_Archive_of,
    f_Archive_package := fun_mk (st := s_Archive_package) l_Archive_package c_Archive_package k_Archive_package,
    b_Archive_package := (fun_mk (st := s_Archive_package) l_Archive_package c_Archive_package k_Archive_package).binds (ps := ["self", "name"]) fun _ _ _ _ _ _ us hl => match us, hl with | [_, _], _ => rfl,
    fn_Archive_package := fn_Archive_package,
    fi_Archive_package := fi_Archive_package,
    k_Archive_package := k_Archive_package,
    f_Archive_check_names := fun_mk (st := s_Archive_check_names) l_Archive_check_names c_Archive_check_names k_Archive_check_names,
    b_Archive_check_names := (fun_mk (st := s_Archive_check_names) l_Archive_check_names c_Archive_check_names k_Archive_check_names).binds (ps := ["self", "names"]) fun _ _ _ _ _ _ us hl => match us, hl with | [_, _], _ => rfl,
    fn_Archive_check_names := fn_Archive_check_names,
    fi_Archive_check_names := fi_Archive_check_names,
    k_Archive_check_names := k_Archive_check_names,
    f_Archive_affected := fun_mk (st := s_Archive_affected) l_Archive_affected c_Archive_affected k_Archive_affected,
    b_Archive_affected := (fun_mk (st := s_Archive_affected) l_Archive_affected c_Archive_affected k_Archive_affected).binds (ps := ["self", "names"]) fun _ _ _ _ _ _ us hl => match us, hl with | [_, _], _ => rfl,
    fn_Archive_affected := fn_Archive_affected,
    fi_Archive_affected := fi_Archive_affected,
    k_Archive_affected := k_Archive_affected,
    f_law_source := fun_mk (st := s_law_source) l_law_source c_law_source k_law_source,
    b_law_source := (fun_mk (st := s_law_source) l_law_source c_law_source k_law_source).binds (ps := ["_law_script", "_law_index"]) fun _ _ _ _ _ _ us hl => match us, hl with | [_, _], _ => rfl,
    m_law_source := PySem.W.mg_of X G a_law_source,
    k_law_source := k_law_source,
    f_law_draw := fun_mk (st := s_law_draw) l_law_draw c_law_draw k_law_draw,
    b_law_draw := (fun_mk (st := s_law_draw) l_law_draw c_law_draw k_law_draw).binds (ps := ["_law_source_here", "_law_bound"]) fun _ _ _ _ _ _ us hl => match us, hl with | [_, _], _ => rfl,
    m_law_draw := PySem.W.mg_of X G a_law_draw,
    k_law_draw := k_law_draw,
    f_law_shuffled := fun_mk (st := s_law_shuffled) l_law_shuffled c_law_shuffled k_law_shuffled,
    b_law_shuffled := (fun_mk (st := s_law_shuffled) l_law_shuffled c_law_shuffled k_law_shuffled).binds (ps := ["_law_source_here", "_law_things"]) fun _ _ _ _ _ _ us hl => match us, hl with | [_, _], _ => rfl,
    m_law_shuffled := PySem.W.mg_of X G a_law_shuffled,
    k_law_shuffled := k_law_shuffled,
    f_law_drawn_packages := fun_mk (st := s_law_drawn_packages) l_law_drawn_packages c_law_drawn_packages k_law_drawn_packages,
    b_law_drawn_packages := (fun_mk (st := s_law_drawn_packages) l_law_drawn_packages c_law_drawn_packages k_law_drawn_packages).binds (ps := ["_law_source_here", "_law_many", "_law_staged"]) fun _ _ _ _ _ _ us hl => match us, hl with | [_, _, _], _ => rfl,
    m_law_drawn_packages := PySem.W.mg_of X G a_law_drawn_packages,
    k_law_drawn_packages := k_law_drawn_packages,
    f_law_made_archive := fun_mk (st := s_law_made_archive) l_law_made_archive c_law_made_archive k_law_made_archive,
    b_law_made_archive := (fun_mk (st := s_law_made_archive) l_law_made_archive c_law_made_archive k_law_made_archive).binds (ps := ["_law_rows"]) fun _ _ _ _ _ _ us hl => match us, hl with | [_], _ => rfl,
    m_law_made_archive := PySem.W.mg_of X G a_law_made_archive,
    k_law_made_archive := k_law_made_archive,
    f_law := fun_mk (st := s_law) l_law c_law k_law,
    b_law := (fun_mk (st := s_law) l_law c_law k_law).binds (ps := ["_law_script"]) fun _ _ _ _ _ _ us hl => match us, hl with | [_], _ => rfl,
    m_law := PySem.W.mg_of X G a_law,
    k_law := k_law,
    g_LETTERS := ⟨_, PySem.W.mg_of X G gz_LETTERS, gr_LETTERS⟩,
    g_MOST_LETTERS := ⟨_, PySem.W.mg_of X G gz_MOST_LETTERS, gr_MOST_LETTERS⟩ }

theorem walk {l : PySem.W.OpenLaw} {q : Program} {loose : List Str} {XP : (Str → Option Value) → Heap → Prop} {YP : World → Heap → Prop} {d : DefRec} {K : Params → PySem.W.Frag} (hn : l.most = some 63) (hdf : d.params.defaults = [])
    (hY : ∀ (w : World) (h : Heap), YP w h → (K w.params).In h)
    (F : ∀ (w : World) (mg : Str → Option Value) (fa : Addr) (h : Heap), (K w.params).In h → h.Ns mainGlobals mg → mg d.name = some (.ref fa) → ∃ ad : Ad, Txt l.prog (K w.params) mg ad ∧ ad.a_law = fa) :
    PySem.W.WalkO q loose XP YP l.row.toRowW d [] (fun f vs => PySem.call f vs) := by
  refine L2.walk_of (n := 63) (k := 24) (x := "_law_script") (CX := fun _ => CX0) (sp := fun w => spLaw (K w.params)) hn (by decide) hdf ⟨rfl, by decide, by decide⟩ hY ?_ (fun _ _ a ns hl _ hS => ⟨a, ns, rfl, hS, hl, fun _ => rfl⟩) fun _ _ _ _ _ z => z
  intro w mg fa h hK hG hm
  obtain ⟨ad, T, rfl⟩ := F w mg fa h hK hG hm
  refine ⟨ad.d_law, fun s v => ?_, fun base _ _ => ok_law T⟩
  obtain ⟨oc, od, kV, doc, pm, an, cdv, ct, osl, e, _⟩ := T.f_law.ex
  rw [e]
  exact .of_eq rfl

end Toy
open PySem PySem.W PyProof.Rows in
set_option maxRecDepth 100000 in
set_option maxHeartbeats 0 in
theorem PySem.Challenge.cw_sourcequeue_k46_whole_affected_holds : PySem.Challenge.rw_sourcequeue_k46_whole_affected.Holds := by
  w_on; o_law; k_headL; (case hw => w_witness2)
  k_fill
  refine Toy.walk (l := PySem.Challenge.rw_sourcequeue_k46_whole_affected) rfl rfl (fun w h Y => PySem.W.kIn_of Y) ?F
  case F =>
    intro w mg fa h KX G hmg
    refine' Toy.all_mk KX G hmg ?zall ?zdict ?zlen ?zlist ?zmax ?zmin ?zrange ?zset ?zsorted ?ztuple ?hnx ?tkx ?mgx_Package ?pg_Package ?hd_Package ?po_Package ?sa_Package ?oc_Package ?om_Package ?ic_Package ?tc_Package ?mk1_Package ?kc_Package ?na_Package_name ?na_Package_needs ?na_Package_staged ?mgx_Archive ?pg_Archive ?hd_Archive ?po_Archive ?sa_Archive ?oc_Archive ?om_Archive ?ic_Archive ?tc_Archive ?mk1_Archive ?kc_Archive ?rd_Archive ?rg_Archive ?na_Archive_by_name ?na_Archive_sorted_names ?mgx_BadName ?mgx_SourceError ?rd_SourceError ?rg_SourceError ?ri_SourceError ?mgx_BadArchive ?ox_BadArchive ?na_BadArchive_name ?a_BadArchive_XinitX ?l_BadArchive_XinitX ?c_BadArchive_XinitX ?k_BadArchive_XinitX ?fn_BadArchive_XinitX ?fi_BadArchive_XinitX ?a_is_word ?l_is_word ?c_is_word ?k_is_word ?a_is_name ?l_is_name ?c_is_name ?k_is_name ?a_Package_XinitX ?l_Package_XinitX ?c_Package_XinitX ?k_Package_XinitX ?fn_Package_XinitX ?fi_Package_XinitX ?a_Archive_XinitX ?l_Archive_XinitX ?c_Archive_XinitX ?k_Archive_XinitX ?fn_Archive_XinitX ?fi_Archive_XinitX ?a_Archive_of ?pg3_Archive_of ?l_Archive_of ?c_Archive_of ?k_Archive_of ?fn_Archive_of ?fi_Archive_of ?a_Archive_package ?l_Archive_package ?c_Archive_package ?k_Archive_package ?fn_Archive_package ?fi_Archive_package ?a_Archive_check_names ?l_Archive_check_names ?c_Archive_check_names ?k_Archive_check_names ?fn_Archive_check_names ?fi_Archive_check_names ?a_Archive_affected ?l_Archive_affected ?c_Archive_affected ?k_Archive_affected ?fn_Archive_affected ?fi_Archive_affected ?a_law_source ?l_law_source ?c_law_source ?k_law_source ?a_law_draw ?l_law_draw ?c_law_draw ?k_law_draw ?a_law_shuffled ?l_law_shuffled ?c_law_shuffled ?k_law_shuffled ?a_law_drawn_packages ?l_law_drawn_packages ?c_law_drawn_packages ?k_law_drawn_packages ?a_law_made_archive ?l_law_made_archive ?c_law_made_archive ?k_law_made_archive ?a_law ?l_law ?c_law ?k_law ?gz_LETTERS ?gr_LETTERS ?gz_MOST_LETTERS ?gr_MOST_LETTERS
    (case zall => k_is)
    (case zdict => k_is)
    (case zlen => k_is)
    (case zlist => k_is)
    (case zmax => k_is)
    (case zmin => k_is)
    (case zrange => k_is)
    (case zset => k_is)
    (case zsorted => k_is)
    (case ztuple => k_is)
    (case hnx => k_is)
    (case tkx => k_is)
    (case mgx_Package => k_is)
    (case pg_Package => k_is)
    (case hd_Package => k_is)
    (case po_Package => k_is)
    (case sa_Package => k_is)
    (case oc_Package => k_is)
    (case om_Package => k_is)
    (case ic_Package => k_is)
    (case tc_Package => k_is)
    (case mk1_Package => k_is)
    (case kc_Package => k_is)
    (case na_Package_name => k_is)
    (case na_Package_needs => k_is)
    (case na_Package_staged => k_is)
    (case mgx_Archive => k_is)
    (case pg_Archive => k_is)
    (case hd_Archive => k_is)
    (case po_Archive => k_is)
    (case sa_Archive => k_is)
    (case oc_Archive => k_is)
    (case om_Archive => k_is)
    (case ic_Archive => k_is)
    (case tc_Archive => k_is)
    (case mk1_Archive => k_is)
    (case kc_Archive => k_is)
    (case rd_Archive => k_is)
    (case rg_Archive => k_is)
    (case na_Archive_by_name => k_is)
    (case na_Archive_sorted_names => k_is)
    (case mgx_BadName => k_is)
    (case mgx_SourceError => k_is)
    (case rd_SourceError => k_is)
    (case rg_SourceError => k_is)
    (case ri_SourceError => k_is)
    (case mgx_BadArchive => k_is)
    (case ox_BadArchive => exact ⟨⟨⟨_, _, _, _, _, _, _, _, _, _, _, _, _, _, _, by k_is, by rfl⟩, by k_is, by k_is, by k_is, by k_is⟩, by k_is, by k_is, by k_is, by k_is, by k_is⟩)
    (case na_BadArchive_name => k_is)
    (case a_BadArchive_XinitX => k_is)
    (case l_BadArchive_XinitX => k_is)
    (case c_BadArchive_XinitX => k_is)
    (case k_BadArchive_XinitX => k_is)
    (case fn_BadArchive_XinitX => k_is)
    (case fi_BadArchive_XinitX => k_is)
    (case a_is_word => k_is)
    (case l_is_word => k_is)
    (case c_is_word => k_is)
    (case k_is_word => k_is)
    (case a_is_name => k_is)
    (case l_is_name => k_is)
    (case c_is_name => k_is)
    (case k_is_name => k_is)
    (case a_Package_XinitX => k_is)
    (case l_Package_XinitX => k_is)
    (case c_Package_XinitX => k_is)
    (case k_Package_XinitX => k_is)
    (case fn_Package_XinitX => k_is)
    (case fi_Package_XinitX => k_is)
    (case a_Archive_XinitX => k_is)
    (case l_Archive_XinitX => k_is)
    (case c_Archive_XinitX => k_is)
    (case k_Archive_XinitX => k_is)
    (case fn_Archive_XinitX => k_is)
    (case fi_Archive_XinitX => k_is)
    (case a_Archive_of => k_is)
    (case pg3_Archive_of => k_is)
    (case l_Archive_of => k_is)
    (case c_Archive_of => k_is)
    (case k_Archive_of => k_is)
    (case fn_Archive_of => k_is)
    (case fi_Archive_of => k_is)
    (case a_Archive_package => k_is)
    (case l_Archive_package => k_is)
    (case c_Archive_package => k_is)
    (case k_Archive_package => k_is)
    (case fn_Archive_package => k_is)
    (case fi_Archive_package => k_is)
    (case a_Archive_check_names => k_is)
    (case l_Archive_check_names => k_is)
    (case c_Archive_check_names => k_is)
    (case k_Archive_check_names => k_is)
    (case fn_Archive_check_names => k_is)
    (case fi_Archive_check_names => k_is)
    (case a_Archive_affected => k_is)
    (case l_Archive_affected => k_is)
    (case c_Archive_affected => k_is)
    (case k_Archive_affected => k_is)
    (case fn_Archive_affected => k_is)
    (case fi_Archive_affected => k_is)
    (case a_law_source => k_is)
    (case l_law_source => k_is)
    (case c_law_source => k_is)
    (case k_law_source => k_is)
    (case a_law_draw => k_is)
    (case l_law_draw => k_is)
    (case c_law_draw => k_is)
    (case k_law_draw => k_is)
    (case a_law_shuffled => k_is)
    (case l_law_shuffled => k_is)
    (case c_law_shuffled => k_is)
    (case k_law_shuffled => k_is)
    (case a_law_drawn_packages => k_is)
    (case l_law_drawn_packages => k_is)
    (case c_law_drawn_packages => k_is)
    (case k_law_drawn_packages => k_is)
    (case a_law_made_archive => k_is)
    (case l_law_made_archive => k_is)
    (case c_law_made_archive => k_is)
    (case k_law_made_archive => k_is)
    (case a_law => k_is)
    (case l_law => k_is)
    (case c_law => k_is)
    (case k_law => k_is)
    (case gz_LETTERS => k_is)
    (case gr_LETTERS => exact ⟨_, rfl⟩)
    (case gz_MOST_LETTERS => k_is)
    (case gr_MOST_LETTERS => exact ⟨_, rfl⟩)


