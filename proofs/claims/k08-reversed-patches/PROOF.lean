import PyProof.Rows.All
import Wide.All
import OpenK.AllK
import Wide.FinOn
import HandS.ForMost
import HandS.Wide
import HandS.Walk
import HandS.Rev
import HandS.Flt
import HandS.RaiseMore
import PyProof.NeData
import KE.KSuper
import HandS.Nested
import HandS.OwnEq
import PyProof.InstEq
import HandS.IsInst
import HandS.FStr
import HandS.ExcInit
import HandS.ExcIs
import HandS.ExcField
import HandS.MakeKw
import HandS.ClsMeth
import HandS.ExcOwn
import HandS.Exc
import HandS.TryOnly
import HandS.WordsExc
import HandS.HotCalls
import HandS.Text
import HandS.TupAny
import HandS.Star
import HandS.CallLocal
import HandS.More
import OpenK.KOps
import PyProof.Rows.StrInSeq
import HandS.Style
import HandS.Small
import HandS.WordsDict
import HandS.Dict
import HandS.ListItems
import HandS.DictEq
import KE.KDictOf
import KE.GoesMore
import HandS.Flow
import HandS.Zip
import HandS.Property
import KE.RegKSuper
import KE.OsRunLaw
import PySem.Challenge.RW_sourcequeue_k08_reversed_patches
set_option Elab.async false
set_option linter.all false
set_option maxRecDepth 100000
set_option maxHeartbeats 4000000
/-! A layer of our own over HandS: readings that compute (a match on the values in place of an existence), rules that serve several kinds of values, heaps, sources. -/
namespace L2
open PySem PySem.Spec PyProof.Rows

/-! ### weaker readings -/
section
variable {X : Cx}
theorem PE.weak {e : Expr} {t t' : TE} (h : PE X e t) (w : ∀ σ H Q, t' σ H Q → t σ H Q) : PE X e t' := ⟨fun pins s σ H Q I q => h.run pins s σ H Q I (w σ H Q q)⟩
theorem PT.weak {e : Expr} {t t' : TT} (h : PT X e t) (w : ∀ σ H Q, t' σ H Q → t σ H Q) : PT X e t' := ⟨fun pins s σ H Q I q => h.run pins s σ H Q I (w σ H Q q)⟩
theorem PW.weak {e : Expr} {t t' : TT} (h : PW X e t) (w : ∀ σ H Q, t' σ H Q → t σ H Q) : PW X e t' := ⟨fun wh pins s σ H Q I q => h.run wh pins s σ H Q I (w σ H Q q)⟩
theorem PS.weak {st : Stmt} {t t' : TS} (h : PS X st t) (w : ∀ D σ H, t' D σ H → t D σ H) : PS X st t' := ⟨fun pins s σ H D I q => h.run pins s σ H D I (w D σ H q)⟩
theorem PSs.weak {st : List Stmt} {t t' : TS} (h : PSs X st t) (w : ∀ D σ H, t' D σ H → t D σ H) : PSs X st t' := ⟨fun pins s σ H D I q => h.run pins s σ H D I (w D σ H q)⟩
theorem PI.weak {tg iter : Expr} {t t' : TI} (h : PI X tg iter t) (w : ∀ σ H R, t' σ H R → t σ H R) : PI X tg iter t' := ⟨fun pins s σ H R I q => h.run pins s σ H R I (w σ H R q)⟩
theorem PI.or {tg iter : Expr} {wi wi' : TI} (h : PI X tg iter wi) (h' : PI X tg iter wi') : PI X tg iter (fun σ H R => wi σ H R ∨ wi' σ H R) :=
  ⟨fun pins s σ H R I q => q.elim (fun q => h.run pins s σ H R I q) fun q => h'.run pins s σ H R I q⟩
theorem PE.or {e : Expr} {t t' : TE} (h : PE X e t) (h' : PE X e t') : PE X e (fun σ H Q => t σ H Q ∨ t' σ H Q) :=
  ⟨fun pins s σ H R I q => q.elim (fun q => h.run pins s σ H R I q) fun q => h'.run pins s σ H R I q⟩
theorem OpR.weak {f : Value → Value → Sem Value} {r r' : R2} (h : OpR X f r) (w : ∀ x y H Q, r' x y H Q → r x y H Q) : OpR X f r' := fun pins s σ H x y v u Q I rx ry q => h pins s σ H x y v u Q I rx ry (w x y H Q q)
theorem CallR.weak {f : Value} {r r' : List V → Hp → VK → Prop} (h : CallR X f r) (w : ∀ xs H Q, r' xs H Q → r xs H Q) : CallR X f r' := fun pins s σ H xs us Q I rx q => h pins s σ H xs us Q I rx (w xs H Q q)
theorem IxR.weak {r r' : R2} (h : IxR X r) (w : ∀ x y H Q, r' x y H Q → r x y H Q) : IxR X r' := fun va sl pins s σ H x y v u Q I rx ry q => h va sl pins s σ H x y v u Q I rx ry (w x y H Q q)
theorem MtR.weak {id : String} {r r' : V → List V → Hp → VK → Prop} (h : MtR X id r) (w : ∀ x xs H Q, r' x xs H Q → r x xs H Q) : MtR X id r' := fun pins s σ H x xs v us Q I rx rs q => h pins s σ H x xs v us Q I rx rs (w x xs H Q q)
theorem PSet.weak {t t' : TSet} (h : PSet X t) (w : ∀ o i v H Q, t' o i v H Q → t o i v H Q) : PSet X t' := fun pins s σ H o i v ov iv u Q I r1 r2 r3 q => h pins s σ H o i v ov iv u Q I r1 r2 r3 (w o i v H Q q)
end

/-! ### ** of greater numbers -/
def CPowW (i j : Int) : Prop := 0 ≤ j ∧ (Builtin.Int.intBits i : Int) * j ≤ 2 ^ 27
theorem pow_bits {i j : Int} {a : Nat} (ha : i.natAbs < 2 ^ a) (h0 : 0 < a) (hj : 0 ≤ j) (h : ((a : Int) + 1) * j ≤ 2 ^ 27) : CPowW i j := by
  refine ⟨hj, ?_⟩
  have x := PySem.Flt.log2_lt_of h0 ha
  have b : Builtin.Int.intBits i ≤ i.natAbs.log2 + 1 := by
    unfold Builtin.Int.intBits
    split <;> omega
  have h2 : (Builtin.Int.intBits i : Int) ≤ (a : Int) + 1 := by omega
  exact Int.le_trans (Int.mul_le_mul_of_nonneg_right h2 hj) h
theorem log2_small {i : Int} {a : Nat} (ha : i.natAbs < 2 ^ a) (h0 : 0 < a) (h : a ≤ 1920) : i.natAbs.log2 < 1920 := Nat.lt_of_lt_of_le (PySem.Flt.log2_lt_of h0 ha) h

/-! ### names, branches -/
def br (b : Bool) (A B : Prop) : Prop := (b = true → A) ∧ (b = false → B)
theorem br.ite {b : Bool} {A B : Prop} (h : br b A B) : if b = true then A else B := by
  cases b with
  | true => rw [if_pos rfl]; exact h.1 rfl
  | false => rw [if_neg Bool.false_ne_true]; exact h.2 rfl
theorem br.t {A B : Prop} (h : A) : br true A B := ⟨fun _ => h, fun z => Bool.noConfusion z⟩
theorem br.f {A B : Prop} (h : B) : br false A B := ⟨fun z => Bool.noConfusion z, fun _ => h⟩
def tV (i : Nat) : TE := fun σ H Q => match σ[i]? with | some (some v) => Q v H | _ => False
theorem tV_of {i : Nat} {σ : St} {H : Hp} {Q : VK} (h : tV i σ H Q) : tVar i σ H Q := by
  unfold tV at h
  split at h
  · rename_i v e; exact ⟨v, e, h⟩
  · exact h.elim
def tTst (t : TE) : TT := fun σ H Q => t σ H fun x H1 => match x with | .bl k => Q k H1 | _ => False
def tAndC (t u : TT) : TT := fun σ H Q => t σ H fun c H1 => br c (u σ H1 Q) (Q false H1)
def tOrC (t u : TT) : TT := fun σ H Q => t σ H fun c H1 => br c (Q true H1) (u σ H1 Q)
def tIfC (t : TT) (ta tb : TE) : TE := fun σ H Q => t σ H fun c H1 => br c (ta σ H1 Q) (tb σ H1 Q)
def tIfSC (c : TT) (t u : TS) : TS := fun D σ H => c σ H fun b H1 => br b (t D σ H1) (u D σ H1)
def tAndVC (ta tb : TE) : TE := fun σ H Q => ta σ H fun x H1 => match x with | .bl c => br c (tb σ H1 Q) (Q (.bl false) H1) | _ => False
def tOrVC (ta tb : TE) : TE := fun σ H Q => ta σ H fun x H1 => match x with | .bl c => br c (Q (.bl true) H1) (tb σ H1 Q) | _ => False
def tNotVC (ta : TT) : TE := fun σ H Q => ta σ H fun c H1 => Q (.bl (!c)) H1
/-- a test's answers are joined: what is known of them stands in P -/
def tJn (t : TT) : TT := fun σ H Q => ∃ P : Bool → Hp → Prop, t σ H P ∧ ∀ b H', P b H' → Q b H'
/-- a statement's ends are joined -/
def tCt (t : TS) : TS := fun D σ H => ∃ P : St → Hp → Prop, t { D with nx := P } σ H ∧ ∀ σ' H', P σ' H' → D.nx σ' H'
section
variable {X : Cx} {e a b c : Expr} {rest : List Expr} {te ta tb : TE} {tA tB : TT} {pos : Pos}
theorem cv (i : Nat) {x : Str} {pos : Pos} (hN : X.N[i]? = some x := by rfl) (hv : Vis X.env.scope x := by first | exact Or.inl rfl | exact Or.inr (Or.inl rfl) | exact Or.inr (Or.inr rfl)) (hd : (x == ("__debug__" : Str)) = false := by decide)
    (hcd : (x == ("__classdict__" : Str)) = false := by decide) : PE X (.Name x pos) (tV i) := (pe_var hN hv hd hcd).weak fun _ _ _ h => tV_of h
theorem run_bl {pins : List (Addr × Obj)} {s : Shared} {σ : St} {H : Hp} {Q : Bool → Hp → Prop} {t : Sem Value} (h : wpAny (model X.prog X.w) X.A t (EP X pins σ (fun x H1 => match x with | .bl k => Q k H1 | _ => False)) X.xe s) :
    wpAny (model X.prog X.w) X.A t (EP X pins σ (fun x H1 => ∃ k, x = .bl k ∧ Q k H1)) X.xe s := by
  refine thn h fun v s1 hv => ?_
  obtain ⟨x, H1, I1, r1, q1⟩ := hv
  cases x with
  | bl k => exact ⟨_, H1, I1, r1, k, rfl, q1⟩
  | _ => exact q1.elim
theorem PE.bl (h : PE X e te) : PE X e (fun σ H Q => te σ H fun x H1 => match x with | .bl k => Q (.bl k) H1 | _ => False) := ⟨fun pins s σ H Q I q => by
  refine thn (h.run pins s σ H _ I q) fun v s1 hv => ?_
  obtain ⟨x, H1, I1, r1, q1⟩ := hv
  cases x with
  | bl k => exact ⟨_, H1, I1, r1, q1⟩
  | _ => exact q1.elim⟩
theorem ct_val (h : PE X e te) (he : ∀ whole, isTrue e X.env whole = (do let v ← whole; standAt e.pos; holding [v] (truthy v)) := by intro _; rfl) : PT X e (tTst te) := ⟨fun pins s σ H Q I q => by
  have h2 : PE X e (fun σ H Q => te σ H fun x H1 => match x with | .bl k => Q (.bl k) H1 | _ => False) := h.bl
  have h3 := pt_val h2 he
  exact h3.run pins s σ H Q I (by
    show te σ H _
    have q' : te σ H fun x H1 => match x with | .bl k => Q k H1 | _ => False := q
    have eq : (fun x H1 => match x with | .bl k => Q k H1 | _ => False) = (fun (x : V) (H1 : Hp) => match x with | .bl k => (fun (x : V) (H' : Hp) => ∃ k, x = .bl k ∧ Q k H') (.bl k) H1 | _ => False) := by
      funext x H1
      cases x with
      | bl k => exact propext ⟨fun q => ⟨k, rfl, q⟩, fun ⟨k', e, q⟩ => by cases e; exact q⟩
      | _ => rfl
    rw [eq] at q'
    exact q')⟩
theorem OpR.bl {f : Value → Value → Sem Value} {r : R2} (h : OpR X f r) : OpR X f (fun x y H Q => r x y H fun z H1 => match z with | .bl k => Q (.bl k) H1 | _ => False) := fun pins s σ H x y v u Q I rx ry q => by
  refine thn (h pins s σ H x y v u _ I rx ry q) fun v s1 hv => ?_
  obtain ⟨x, H1, I1, r1, q1⟩ := hv
  cases x with
  | bl k => exact ⟨_, H1, I1, r1, q1⟩
  | _ => exact q1.elim
theorem ct_cmp {op : CmpOp} {r : R2} (ho : OpR X (compareOp op) r) (ha : PE X a ta) (hb : PE X b tb) (hm : behindInMarks op b = false) : PT X (.Compare a [op] [b] pos) (tTst (tOp r ta tb)) :=
  (pt_cmpR ho.bl ha hb hm).weak fun σ H Q h => by
    have eq : (fun (x : V) (H1 : Hp) => match x with | .bl k => Q k H1 | _ => False) = (fun (x : V) (H1 : Hp) => match x with | .bl k => (fun (x : V) (H' : Hp) => ∃ k, x = .bl k ∧ Q k H') (.bl k) H1 | _ => False) := by
      funext x H1
      cases x with
      | bl k => exact propext ⟨fun q => ⟨k, rfl, q⟩, fun ⟨k', e, q⟩ => by cases e; exact q⟩
      | _ => rfl
    have h' : ta σ H fun x H1 => tb σ H1 fun y H2 => r x y H2 fun (x : V) (H1 : Hp) => match x with | .bl k => Q k H1 | _ => False := h
    rw [eq] at h'
    exact h'
theorem run_br {t : TT} {e : Expr} (h : PT X e t) {pins : List (Addr × Obj)} {s : Shared} {σ : St} {H : Hp} {A B : Hp → Prop} (I : Inv X pins σ H s) (q : t σ H fun c H1 => br c (A H1) (B H1)) :
    wpAny (model X.prog X.w) X.A (isTrue e X.env (eval e X.env)) (TP X pins σ fun c H1 => if c = true then A H1 else B H1) X.xe s :=
  thn (h.run pins s σ H _ I q) fun c s1 ⟨H1, I1, q1⟩ => ⟨H1, I1, q1.ite⟩
/-- the branch of a test as br -/
theorem PT.br2 (h : PT X e tA) : PT X e (fun σ H Q => tA σ H fun c H1 => L2.br c (Q true H1) (Q false H1)) := ⟨fun pins s σ H Q I q => by
  refine thn (h.run pins s σ H _ I q) fun c s1 ⟨H1, I1, q1⟩ => ⟨H1, I1, ?_⟩
  cases c with
  | true => exact q1.1 rfl
  | false => exact q1.2 rfl⟩
theorem br_if {c : Bool} {A B : Prop} : (if c = true then A else B) = br c A B := by
  cases c with
  | true => rw [if_pos rfl]; exact propext ⟨fun h => .t h, fun h => h.1 rfl⟩
  | false => rw [if_neg Bool.false_ne_true]; exact propext ⟨fun h => .f h, fun h => h.2 rfl⟩
theorem tAnd_eq (t u : TT) : tAnd t u = tAndC t u := by funext σ H Q; unfold tAnd tAndC; congr 1; funext c H1; exact br_if
theorem tOr_eq (t u : TT) : tOr t u = tOrC t u := by funext σ H Q; unfold tOr tOrC; congr 1; funext c H1; exact br_if
theorem tIf_eq (t : TT) (u v : TE) : tIf t u v = tIfC t u v := by funext σ H Q; unfold tIf tIfC; congr 1; funext c H1; exact br_if
theorem tIfS_eq (t : TT) (u v : TS) : tIfS t u v = tIfSC t u v := by funext D σ H; unfold tIfS tIfSC; congr 1; funext c H1; exact br_if
theorem cw_and (ha : PT X a tA) (hb : PW X (.BoolOp .And (b :: rest) pos) tB) : PW X (.BoolOp .And (a :: b :: rest) pos) (tAndC tA tB) := by rw [← tAnd_eq]; exact pw_and ha hb
theorem cw_or (ha : PT X a tA) (hb : PW X (.BoolOp .Or (b :: rest) pos) tB) : PW X (.BoolOp .Or (a :: b :: rest) pos) (tOrC tA tB) := by rw [← tOr_eq]; exact pw_or ha hb
theorem ce_if {c : Expr} (hc : PT X c tA) (ha : PE X a ta) (hb : PE X b tb) : PE X (.IfExp c a b pos) (tIfC tA ta tb) := by rw [← tIf_eq]; exact pe_ifExp hc ha hb
theorem cs_if {c : Expr} {a b : List Stmt} {tc : TT} {t u : TS} (hc : PT X c tc) (ha : PSs X a t) (hb : PSs X b u) : PS X (.If c a b pos) (tIfSC tc t u) := by rw [← tIfS_eq]; exact ps_if hc ha hb
theorem bl_eq {te : TE} {σ : St} {H : Hp} {f : Bool → Hp → Prop} : (te σ H fun x H1 => match x with | .bl c => f c H1 | _ => False) → (fun σ H (Q : VK) => te σ H fun x H1 => match x with | .bl k => Q (.bl k) H1 | _ => False) σ H fun x H1 => ∃ c, x = .bl c ∧ f c H1 := by
  intro h
  show te σ H _
  have eq : (fun (x : V) (H1 : Hp) => match x with | .bl c => f c H1 | _ => False) = (fun (x : V) (H1 : Hp) => match x with | .bl k => (fun (x : V) (H' : Hp) => ∃ k, x = .bl k ∧ f k H') (.bl k) H1 | _ => False) := by
    funext x H1
    cases x with
    | bl k => exact propext ⟨fun q => ⟨k, rfl, q⟩, fun ⟨k', e, q⟩ => by cases e; exact q⟩
    | _ => rfl
  rw [eq] at h
  exact h
theorem ce_and (ha : PE X a ta) (hb : PE X (.BoolOp .And (b :: rest) pos) tb) : PE X (.BoolOp .And (a :: b :: rest) pos) (tAndVC ta tb) :=
  (pe_and ha.bl hb).weak fun σ H Q h => bl_eq (f := fun c H1 => if c = true then tb σ H1 Q else Q (.bl false) H1) (by
    have h' : ta σ H fun x H1 => match x with | .bl c => br c (tb σ H1 Q) (Q (.bl false) H1) | _ => False := h
    have eq : (fun (x : V) (H1 : Hp) => match x with | .bl c => br c (tb σ H1 Q) (Q (.bl false) H1) | _ => False) = (fun (x : V) (H1 : Hp) => match x with | .bl c => if c = true then tb σ H1 Q else Q (.bl false) H1 | _ => False) := by
      funext x H1
      cases x with
      | bl k => exact br_if.symm
      | _ => rfl
    rw [eq] at h'
    exact h')
theorem ce_or (ha : PE X a ta) (hb : PE X (.BoolOp .Or (b :: rest) pos) tb) : PE X (.BoolOp .Or (a :: b :: rest) pos) (tOrVC ta tb) :=
  (pe_or ha.bl hb).weak fun σ H Q h => bl_eq (f := fun c H1 => if c = true then Q (.bl true) H1 else tb σ H1 Q) (by
    have h' : ta σ H fun x H1 => match x with | .bl c => br c (Q (.bl true) H1) (tb σ H1 Q) | _ => False := h
    have eq : (fun (x : V) (H1 : Hp) => match x with | .bl c => br c (Q (.bl true) H1) (tb σ H1 Q) | _ => False) = (fun (x : V) (H1 : Hp) => match x with | .bl c => if c = true then Q (.bl true) H1 else tb σ H1 Q | _ => False) := by
      funext x H1
      cases x with
      | bl k => exact br_if.symm
      | _ => rfl
    rw [eq] at h'
    exact h')
theorem PT.join (h : PT X e tA) : PT X e (tJn tA) := ⟨fun pins s σ H Q I ⟨P, h1, h2⟩ => thn (h.run pins s σ H P I h1) fun b s1 ⟨H1, I1, q1⟩ => ⟨H1, I1, h2 b H1 q1⟩⟩
theorem PS.cut {st : Stmt} {t : TS} (h : PS X st t) : PS X st (tCt t) := ⟨fun pins s σ H D I ⟨P, h1, h2⟩ => thn (h.run pins s σ H _ I h1) fun f s1 q => by
  cases f with
  | next => obtain ⟨σ', H', I', q'⟩ := q; exact ⟨σ', H', I', h2 σ' H' q'⟩
  | brk => exact q
  | cont => exact q
  | ret u => exact q⟩
end

/-! ### == of flat lists -/
/-- two lists of flat values, item by item -/
def eqVs : List V → List V → Bool
  | [], [] => true
  | x :: xs, y :: ys => eqV x y && eqVs xs ys
  | _, _ => false
theorem eqVs_len : ∀ xs ys : List V, eqVs xs ys = true → xs.length = ys.length
  | [], [], _ => rfl
  | x :: xs, y :: ys, h => by
    rw [eqVs, Bool.and_eq_true] at h
    rw [List.length_cons, List.length_cons, eqVs_len xs ys h.2]
  | [], y :: ys, h => by simp [eqVs] at h
  | x :: xs, [], h => by simp [eqVs] at h
theorem eqVs_all : ∀ xs ys : List V, xs.length = ys.length → eqVs xs ys = (List.range xs.length).all fun j => eqV (xs.getD j .non) (ys.getD j .non)
  | [], [], _ => rfl
  | x :: xs, y :: ys, h => by
    rw [eqVs, eqVs_all xs ys (by simpa using h), List.length_cons, List.range_succ_eq_map, List.all_cons, List.all_map]
    rfl
  | [], y :: ys, h => by simp at h
  | x :: xs, [], h => by simp at h
theorem eqVs_strs : ∀ xs ys : List Str, eqVs (xs.map V.str) (ys.map V.str) = decide (xs = ys)
  | [], [] => rfl
  | [], y :: ys => by simp [eqVs]
  | x :: xs, [] => by simp [eqVs]
  | x :: xs, y :: ys => by
    rw [List.map_cons, List.map_cons, eqVs, eqVs_strs xs ys]
    show (x == y && _) = _
    by_cases h : x = y <;> by_cases g : xs = ys <;> simp [h, g]
theorem eqVs_ints : ∀ xs ys : List Int, eqVs (xs.map V.int) (ys.map V.int) = decide (xs = ys)
  | [], [] => rfl
  | [], y :: ys => by simp [eqVs]
  | x :: xs, [] => by simp [eqVs]
  | x :: xs, y :: ys => by
    rw [List.map_cons, List.map_cons, eqVs, eqVs_ints xs ys]
    show (x == y && _) = _
    by_cases h : x = y <;> by_cases g : xs = ys <;> simp [h, g]
theorem eqVs_bls : ∀ xs ys : List Bool, eqVs (xs.map V.bl) (ys.map V.bl) = decide (xs = ys)
  | [], [] => rfl
  | [], y :: ys => by simp [eqVs]
  | x :: xs, [] => by simp [eqVs]
  | x :: xs, y :: ys => by
    rw [List.map_cons, List.map_cons, eqVs, eqVs_bls xs ys]
    show (x == y && _) = _
    by_cases h : x = y <;> by_cases g : xs = ys <;> simp [h, g]
/-- two lists, two tuples, of flat values -/
def SqP (K : PySem.W.Frag) (H : Hp) (a b : Addr) (xs ys : List V) : Prop := (SqL K H a xs ∧ SqL K H b ys) ∨ (SqT K H a xs ∧ SqT K H b ys)
def rEqF (K : PySem.W.Frag) : R2 := fun x y H Q => ∃ a b xs ys, x = .ref a ∧ y = .ref b ∧ SqP K H a b xs ys ∧ xs.all flatV = true ∧ ys.all flatV = true ∧ Q (.bl (eqVs xs ys)) H
def rNeF (K : PySem.W.Frag) : R2 := fun x y H Q => ∃ a b xs ys, x = .ref a ∧ y = .ref b ∧ SqP K H a b xs ys ∧ xs.all flatV = true ∧ ys.all flatV = true ∧ Q (.bl (!eqVs xs ys)) H
section
variable {X : Cx} {pins : List (Addr × Obj)} {s : Shared} {σ : St} {H : Hp}
theorem flatq_at {A : Around} {xs ys : List V} {its its2 : List Value} (r1 : Vals xs its) (r2 : Vals ys its2) (f1 : xs.all flatV = true) (f2 : ys.all flatV = true) (j : Nat) (h1 : j < its.toArray.size) (h2 : j < its2.toArray.size) :
    SeqAt.EqAt A s its.toArray[j] its2.toArray[j] (eqV (xs.getD j .non) (ys.getD j .non)) := by
  have e1 := r1.length
  have e2 := r2.length
  have h1' : j < xs.length := by rw [e1]; simpa using h1
  have h2' : j < ys.length := by rw [e2]; simpa using h2
  obtain ⟨u, hu, ru⟩ := r1.get (List.getElem?_eq_getElem h1')
  obtain ⟨v, hv, rv⟩ := r2.get (List.getElem?_eq_getElem h2')
  have g1 : its.toArray[j] = u := by
    have := List.getElem?_eq_getElem (show j < its.length by simpa using h1)
    rw [this] at hu
    simpa using hu
  have g2 : its2.toArray[j] = v := by
    have := List.getElem?_eq_getElem (show j < its2.length by simpa using h2)
    rw [this] at hv
    simpa using hv
  have q1 : xs.getD j .non = xs[j] := by simp [h1']
  have q2 : ys.getD j .non = ys[j] := by simp [h2']
  rw [g1, g2, q1, q2]
  exact eqAt_V ru rv (List.all_eq_true.mp f1 _ (List.getElem_mem h1')) (List.all_eq_true.mp f2 _ (List.getElem_mem h2'))
theorem eqVs_ne {xs ys : List V} (h : xs.length ≠ ys.length) : eqVs xs ys = false := by
  cases e : eqVs xs ys with
  | false => rfl
  | true => exact absurd (eqVs_len _ _ e) h
theorem min_all {e : Nat → Bool} {m n : Nat} (h : m = n) : ((List.range (min m n)).all e && m == n) = (List.range m).all e := by subst h; simp
theorem op_eqF (hu : X.A.units < cLine) : OpR X (compareOp .Eq) (rEqF X.K) := by
  intro pins s σ H x y v u Q I rx ry h
  obtain ⟨a, b, xs, ys, rfl, rfl, hs, f1, f2, q⟩ := h
  cases rx
  cases ry
  rcases hs with ⟨h1, h2⟩ | ⟨h1, h2⟩
  · obtain ⟨its, r1, p1, z1⟩ := I.list h1
    obtain ⟨its2, r2, p2, z2⟩ := I.list h2
    by_cases hl : xs.length = ys.length
    · have hsz : its.toArray.size = its2.toArray.size := by rw [List.size_toArray, List.size_toArray, ← r1.length, ← r2.length, hl]
      refine SeqAt.eq_listAt p1.isList p2.isList hsz hu (fun j a b => flatq_at r1 r2 f1 f2 j a b) ⟨.bl (eqVs xs ys), H, I, ?_, q⟩
      rw [eqVs_all _ _ hl, r1.length, List.size_toArray]; rfl
    · refine SeqAt.eq_list_lengthsAt p1.isList p2.isList ?_ hu ⟨.bl (eqVs xs ys), H, I, ?_, q⟩
      · simp only [List.size_toArray, ← r1.length, ← r2.length]; simpa using hl
      · rw [eqVs_ne hl]; rfl
  · obtain ⟨its, r1, p1, z1⟩ := I.tuple h1
    obtain ⟨its2, r2, p2, z2⟩ := I.tuple h2
    refine SeqAt.eq_tupleAt (show s.heap.IsTuple a its.toArray from p1) (show s.heap.IsTuple b its2.toArray from p2) hu (fun j a b => flatq_at r1 r2 f1 f2 j a b) ⟨.bl (eqVs xs ys), H, I, ?_, q⟩
    by_cases hl : xs.length = ys.length
    · have hsz : its.toArray.size = its2.toArray.size := by rw [List.size_toArray, List.size_toArray, ← r1.length, ← r2.length, hl]
      rw [min_all hsz, eqVs_all _ _ hl, r1.length, List.size_toArray]; rfl
    · rw [eqVs_ne hl]
      have : (its.toArray.size == its2.toArray.size) = false := by simp only [List.size_toArray, ← r1.length, ← r2.length]; simpa using hl
      rw [this, Bool.and_false]; rfl
theorem op_neF (hu : X.A.units < cLine) : OpR X (compareOp .NotEq) (rNeF X.K) := by
  intro pins s σ H x y v u Q I rx ry h
  obtain ⟨a, b, xs, ys, rfl, rfl, hs, f1, f2, q⟩ := h
  cases rx
  cases ry
  show wpAny (model X.prog X.w) X.A (richCompare .NotEq _ _) _ _ _
  rcases hs with ⟨h1, h2⟩ | ⟨h1, h2⟩
  · obtain ⟨its, r1, p1, z1⟩ := I.list h1
    obtain ⟨its2, r2, p2, z2⟩ := I.list h2
    by_cases hl : xs.length = ys.length
    · have hsz : its.toArray.size = its2.toArray.size := by rw [List.size_toArray, List.size_toArray, ← r1.length, ← r2.length, hl]
      refine SeqAt.RcNeAt.lists p1.isList p2.isList hsz hu (fun j a b => flatq_at r1 r2 f1 f2 j a b) _ _ _ _ ⟨.bl (!eqVs xs ys), H, I, ?_, q⟩
      rw [eqVs_all _ _ hl, r1.length, List.size_toArray]; rfl
    · refine SeqAt.RcNeAt.lists_lengths p1.isList p2.isList ?_ hu _ _ _ _ ⟨.bl (!eqVs xs ys), H, I, ?_, q⟩
      · simp only [List.size_toArray, ← r1.length, ← r2.length]; simpa using hl
      · rw [eqVs_ne hl]; rfl
  · obtain ⟨its, r1, p1, z1⟩ := I.tuple h1
    obtain ⟨its2, r2, p2, z2⟩ := I.tuple h2
    refine SeqAt.RcNeAt.tuples (show s.heap.IsTuple a its.toArray from p1) (show s.heap.IsTuple b its2.toArray from p2) hu (fun j a b => flatq_at r1 r2 f1 f2 j a b) _ _ _ _ ⟨.bl (!eqVs xs ys), H, I, ?_, q⟩
    by_cases hl : xs.length = ys.length
    · have hsz : its.toArray.size = its2.toArray.size := by rw [List.size_toArray, List.size_toArray, ← r1.length, ← r2.length, hl]
      rw [min_all hsz, eqVs_all _ _ hl, r1.length, List.size_toArray]; rfl
    · rw [eqVs_ne hl]
      have : (its.toArray.size == its2.toArray.size) = false := by simp only [List.size_toArray, ← r1.length, ← r2.length]; simpa using hl
      rw [this, Bool.and_false]; rfl
end
theorem flatV_strs (xs : List Str) : (xs.map V.str).all flatV = true := by simp [flatV]
theorem flatV_ints (xs : List Int) : (xs.map V.int).all flatV = true := by simp [flatV]
theorem flatV_bls (xs : List Bool) : (xs.map V.bl).all flatV = true := by simp [flatV]
theorem rEq_strs {K : PySem.W.Frag} {H : Hp} {a b : Addr} {xs ys : List Str} {Q : VK} (h : SqP K H a b (xs.map V.str) (ys.map V.str)) (q : Q (.bl (decide (xs = ys))) H) : rEqF K (.ref a) (.ref b) H Q :=
  ⟨a, b, _, _, rfl, rfl, h, flatV_strs xs, flatV_strs ys, by rw [eqVs_strs]; exact q⟩
theorem rNe_strs {K : PySem.W.Frag} {H : Hp} {a b : Addr} {xs ys : List Str} {Q : VK} (h : SqP K H a b (xs.map V.str) (ys.map V.str)) (q : Q (.bl (!decide (xs = ys))) H) : rNeF K (.ref a) (.ref b) H Q :=
  ⟨a, b, _, _, rfl, rfl, h, flatV_strs xs, flatV_strs ys, by rw [eqVs_strs]; exact q⟩
theorem rNe_ints {K : PySem.W.Frag} {H : Hp} {a b : Addr} {xs ys : List Int} {Q : VK} (h : SqP K H a b (xs.map V.int) (ys.map V.int)) (q : Q (.bl (!decide (xs = ys))) H) : rNeF K (.ref a) (.ref b) H Q :=
  ⟨a, b, _, _, rfl, rfl, h, flatV_ints xs, flatV_ints ys, by rw [eqVs_ints]; exact q⟩
theorem rNe_bls {K : PySem.W.Frag} {H : Hp} {a b : Addr} {xs ys : List Bool} {Q : VK} (h : SqP K H a b (xs.map V.bl) (ys.map V.bl)) (q : Q (.bl (!decide (xs = ys))) H) : rNeF K (.ref a) (.ref b) H Q :=
  ⟨a, b, _, _, rfl, rfl, h, flatV_bls xs, flatV_bls ys, by rw [eqVs_bls]; exact q⟩

/-! ### operators -/
def rAddC (K : PySem.W.Frag) : R2 := fun x y H Q => match x, y with
  | .int i, .int j => Q (.int (i + j)) H
  | .str i, .str j => i.length + j.length ≤ sizeLine ∧ Q (.str (i ++ j)) H
  | .ref l, .ref b => (∃ xs zs, H l = some (.lst xs) ∧ H b = some (.lst zs) ∧ xs.length + zs.length ≤ sizeLine ∧ ∀ p, H p = none → Q (.ref p) (upd H p (.lst (xs ++ zs)))) ∨ rCatT K (.ref l) (.ref b) H Q
  | _, _ => False
def rMulC : R2 := fun x y H Q => match x, y with
  | .int i, .int j => CMul i j ∧ Q (.int (i * j)) H
  | .ref l, .int k => rRep (.ref l) (.int k) H Q
  | _, _ => False
def rIC (C : Int → Int → Prop) (g : Int → Int → V) : R2 := fun x y H Q => match x, y with
  | .int i, .int j => C i j ∧ Q (g i j) H
  | _, _ => False
def rI0C (g : Int → Int → V) : R2 := fun x y H Q => match x, y with
  | .int i, .int j => Q (g i j) H
  | _, _ => False
def rCmpC (g : Int → Int → Bool) (h : Str → Str → Bool) : R2 := fun x y H Q => match x, y with
  | .int i, .int j => Q (.bl (g i j)) H
  | .str i, .str j => Q (.bl (h i j)) H
  | _, _ => False
def rEqC (K : PySem.W.Frag) : R2 := fun x y H Q => match x, y with
  | .int i, .int j => Q (.bl (decide (i = j))) H
  | .str i, .str j => Q (.bl (decide (i = j))) H
  | .bl i, .bl j => Q (.bl (decide (i = j))) H
  | .ref a, .ref b => rEqF K (.ref a) (.ref b) H Q ∨ rEqD K (.ref a) (.ref b) H Q
  | x, y => scal x y = true ∧ Q (.bl (decide (x = y))) H
def rNeC (K : PySem.W.Frag) : R2 := fun x y H Q => match x, y with
  | .int i, .int j => Q (.bl (!decide (i = j))) H
  | .str i, .str j => Q (.bl (!decide (i = j))) H
  | .bl i, .bl j => Q (.bl (!decide (i = j))) H
  | .ref a, .ref b => rNeF K (.ref a) (.ref b) H Q ∨ rNeD K (.ref a) (.ref b) H Q
  | x, y => scal x y = true ∧ Q (.bl (!decide (x = y))) H
def rIxC (K : PySem.W.Frag) : R2 := fun x y H Q => match x, y with
  | .ref p, .int i => ∃ xs v, (SqL K H p xs ∨ SqT K H p xs) ∧ atI xs i = some v ∧ Q v H
  | .str z, .int i => ∃ c, z.length ≤ sizeLine ∧ atI z.cps.toList i = some c ∧ Q (.str ⟨#[c]⟩) H
  | _, _ => False
def rSetC : TSet := fun o i v H Q => match o, i with
  | .ref p, .int k => ∃ xs j, H p = some (.lst xs) ∧ ixN xs.length k = some j ∧ Q (upd H p (.lst (xs.set j v)))
  | _, _ => False
def rUC (g : Int → V) : V → Hp → VK → Prop := fun x H Q => match x with
  | .int i => Q (g i) H
  | _ => False
theorem dV_int {i j : Int} : decide (V.int i = V.int j) = decide (i = j) := by by_cases h : i = j <;> simp [h]
theorem dV_str {i j : Str} : decide (V.str i = V.str j) = decide (i = j) := by by_cases h : i = j <;> simp [h]
theorem dV_bl {i j : Bool} : decide (V.bl i = V.bl j) = decide (i = j) := by by_cases h : i = j <;> simp [h]
section
variable {X : Cx}
theorem oc_add {K : PySem.W.Frag} (hK : X.K = K := by rfl) : OpR X (binaryOp .Add) (rAddC K) := hK ▸ (op_add.or (op_add_str.or (op_cat.or op_catT))).weak fun x y H Q h => by
  cases x <;> cases y <;> first | exact False.elim h | skip
  · exact .inl ⟨_, _, rfl, rfl, h⟩
  · exact .inr (.inl ⟨_, _, rfl, rfl, h⟩)
  · rcases h with ⟨xs, zs, h⟩ | h
    · exact .inr (.inr (.inl ⟨_, _, xs, zs, rfl, rfl, h⟩))
    · exact .inr (.inr (.inr h))
theorem oc_mul : OpR X (binaryOp .Mult) rMulC := (op_mul.or op_rep).weak fun x y H Q h => by
  cases x <;> cases y <;> first | exact False.elim h | skip
  · exact .inl ⟨_, _, rfl, rfl, h⟩
  · exact .inr h
theorem OpR.int {f : Value → Value → Sem Value} {C : Int → Int → Prop} {g : Int → Int → V} (h : OpR X f (rI C g)) : OpR X f (rIC C g) := h.weak fun x y H Q h => by
  cases x <;> cases y <;> first | exact False.elim h | exact ⟨_, _, rfl, rfl, h⟩
theorem OpR.int0 {f : Value → Value → Sem Value} {g : Int → Int → V} (h : OpR X f (rI0 g)) : OpR X f (rI0C g) := h.weak fun x y H Q h => by
  cases x <;> cases y <;> first | exact False.elim h | exact ⟨_, _, rfl, rfl, h⟩
theorem oc_sub : OpR X (binaryOp .Sub) (rI0C fun i j => .int (i - j)) := op_sub.int0
theorem oc_div : OpR X (binaryOp .FloorDiv) (rIC CDivW fun i j => .int (i / j)) := op_fdivW.int
theorem oc_mod : OpR X (binaryOp .Mod) (rIC (fun _ j => 0 < j) fun i j => .int (i % j)) := op_mod.int
theorem oc_pow : OpR X (binaryOp .Pow) (rIC CPowW fun i j => .int (i ^ j.toNat)) := OpR.int (opI fun _ _ _ _ _ _ _ hc q => pow_int hc.1 hc.2 q)
theorem OpR.cmp {f : Value → Value → Sem Value} {g : Int → Int → Bool} {k : Str → Str → Bool} (h : OpR X f (rI0 fun i j => .bl (g i j))) (h' : OpR X f (fun x y H Q => ∃ i j, x = .str i ∧ y = .str j ∧ Q (.bl (k i j)) H)) : OpR X f (rCmpC g k) := (h.or h').weak fun x y H Q h => by
  cases x <;> cases y <;> first | exact False.elim h | exact .inl ⟨_, _, rfl, rfl, h⟩ | exact .inr ⟨_, _, rfl, rfl, h⟩
theorem oc_lt : OpR X (compareOp .Lt) (rCmpC (fun i j => decide (i < j)) fun i j => decide (i.cps.toList < j.cps.toList)) := op_lt.cmp op_lt_str
theorem oc_le : OpR X (compareOp .LtE) (rCmpC (fun i j => decide (i ≤ j)) fun i j => !decide (j.cps.toList < i.cps.toList)) := op_le.cmp op_le_str
theorem oc_gt : OpR X (compareOp .Gt) (rCmpC (fun i j => decide (j < i)) fun i j => decide (j.cps.toList < i.cps.toList)) := op_gt.cmp op_gt_str
theorem oc_ge : OpR X (compareOp .GtE) (rCmpC (fun i j => decide (j ≤ i)) fun i j => !decide (i.cps.toList < j.cps.toList)) := op_ge.cmp op_ge_str
theorem oc_eq {K : PySem.W.Frag} (hu : X.A.units + 64 < cLine) (hK : X.K = K := by rfl) : OpR X (compareOp .Eq) (rEqC K) := hK ▸ (op_eq.or ((op_eqF (by omega)).or (op_eqD hu))).weak fun x y H Q h => by
  cases x <;> cases y <;> first | exact .inl h | exact .inr h | exact .inl ⟨rfl, by rw [dV_int]; exact h⟩ | exact .inl ⟨rfl, by rw [dV_str]; exact h⟩ | exact .inl ⟨rfl, by rw [dV_bl]; exact h⟩
theorem oc_ne {K : PySem.W.Frag} (hu : X.A.units + 64 < cLine) (hK : X.K = K := by rfl) : OpR X (compareOp .NotEq) (rNeC K) := hK ▸ (op_ne.or ((op_neF (by omega)).or (op_neD hu))).weak fun x y H Q h => by
  cases x <;> cases y <;> first | exact .inl h | exact .inr h | exact .inl ⟨rfl, by rw [dV_int]; exact h⟩ | exact .inl ⟨rfl, by rw [dV_str]; exact h⟩ | exact .inl ⟨rfl, by rw [dV_bl]; exact h⟩
theorem ic_seq {K : PySem.W.Frag} (hK : X.K = K := by rfl) : IxR X (rIxC K) := hK ▸ ix_seq.weak fun x y H Q h => by
  cases x <;> cases y <;> first | exact False.elim h | skip
  · obtain ⟨c, h⟩ := h; exact .inr (.inr ⟨_, _, c, rfl, rfl, h⟩)
  · obtain ⟨xs, v, h | h, q⟩ := h
    · exact .inl ⟨_, xs, _, v, rfl, rfl, h, q⟩
    · exact .inr (.inl ⟨_, xs, _, v, rfl, rfl, h, q⟩)
theorem set_c : PSet X rSetC := set_list.weak fun o i v H Q h => by
  cases o <;> cases i <;> first | exact False.elim h | skip
  obtain ⟨xs, j, h⟩ := h
  exact ⟨_, xs, _, j, rfl, rfl, h⟩
theorem uc_neg : UnR X (unaryOp .USub) (rUC fun i => .int (-i)) := fun pins s σ H x u Q I rx h => un_neg pins s σ H x u Q I rx (by
  cases x <;> first | exact False.elim h | exact ⟨_, rfl, h⟩)
end

/-! ### calls of built-ins -/
def rLenC (K : PySem.W.Frag) : List V → Hp → VK → Prop := fun xs H Q => match xs with
  | [.ref p] => ∃ ys, (SqL K H p ys ∨ SqT K H p ys) ∧ Q (.int ys.length) H
  | [.str z] => z.length ≤ sizeLine ∧ Q (.int z.length) H
  | _ => False
def rMaxC : List V → Hp → VK → Prop := fun xs H Q => match xs with
  | [.int i, .int j] => Q (.int (max i j)) H
  | [.int i, .int j, .int k] => Q (.int (max (max i j) k)) H
  | _ => False
def rMinC : List V → Hp → VK → Prop := fun xs H Q => match xs with
  | [.int i, .int j] => Q (.int (min i j)) H
  | _ => False
def rTupC (K : PySem.W.Frag) : List V → Hp → VK → Prop := fun xs H Q => match xs with
  | [.ref p] => ∃ ys, (SqL K H p ys ∧ ∀ l, H l = none → Q (.ref l) (upd H l (.tup ys))) ∨ (SqT K H p ys ∧ Q (.ref p) H)
  | _ => False
def rListC (K : PySem.W.Frag) : List V → Hp → VK → Prop := fun xs H Q => match xs with
  | [.ref p] => ∃ ys, (SqL K H p ys ∨ SqT K H p ys) ∧ ∀ l, H l = none → Q (.ref l) (upd H l (.lst ys))
  | _ => False
def rStrC : List V → Hp → VK → Prop := fun xs H Q => match xs with
  | [.int i] => i.natAbs.log2 < 1920 ∧ Q (.str (toString i)) H
  | _ => False
section
variable {X : Cx}
theorem cc_len {K : PySem.W.Frag} (hK : X.K = K := by rfl) : CallR X (.builtin "len") (rLenC K) := hK ▸ (call_len_seq.or call_len_str).weak fun xs H Q h => by
  unfold rLenC at h
  split at h
  · obtain ⟨ys, h⟩ := h; exact .inl ⟨_, ys, rfl, h⟩
  · exact .inr ⟨_, rfl, h⟩
  · exact h.elim
theorem max_if (i j : Int) : (if j > i then j else i) = max i j := by omega
theorem min_if (i j : Int) : (if j < i then j else i) = min i j := by omega
theorem nuMax2_int (i j : Int) : nuMax2 (.int i) (.int j) = some (.int (max i j)) := by
  show some (if decide (i < j) = true then V.int j else V.int i) = _
  by_cases h : i < j
  · rw [if_pos (decide_eq_true h), show max i j = j by omega]
  · rw [if_neg (by simpa using h), show max i j = i by omega]
theorem cc_max (hc : X.calm = true) : CallR X (.builtin "max") rMaxC := ((call_max2 hc).or (call_max3Nu hc)).weak fun xs H Q h => by
  unfold rMaxC at h
  split at h
  · rename_i i j; exact .inl ⟨i, j, rfl, by rw [max_if]; exact h⟩
  · rename_i i j k
    refine .inr ⟨_, _, _, _, rfl, ?_, h⟩
    show (nuMax2 (.int i) (.int j)).bind _ = _
    rw [nuMax2_int, Option.bind_some, nuMax2_int]
  · exact h.elim
theorem cc_min (hc : X.calm = true) : CallR X (.builtin "min") rMinC := (call_min2 hc).weak fun xs H Q h => by
  unfold rMinC at h
  split at h
  · rename_i i j; exact ⟨i, j, rfl, by rw [min_if]; exact h⟩
  · exact h.elim
theorem cc_tuple {K : PySem.W.Frag} (hK : X.K = K := by rfl) : CallR X (.type "tuple") (rTupC K) := hK ▸ call_tuple_of.weak fun xs H Q h => by
  unfold rTupC at h
  split at h
  · obtain ⟨ys, h⟩ := h; exact ⟨_, ys, rfl, h⟩
  · exact h.elim
theorem cc_list {K : PySem.W.Frag} (hK : X.K = K := by rfl) : CallR X (.type "list") (rListC K) := hK ▸ call_list_of.weak fun xs H Q h => by
  unfold rListC at h
  split at h
  · obtain ⟨ys, h⟩ := h; exact ⟨_, ys, rfl, h⟩
  · exact h.elim
theorem cc_str : CallR X (.type "str") rStrC := call_str_int.weak fun xs H Q h => by
  unfold rStrC at h
  split at h
  · exact ⟨_, rfl, h⟩
  · exact h.elim
theorem cc_repr : CallR X (.builtin "repr") rStrC := SkE.call_repr_int.weak fun xs H Q h => by
  unfold rStrC at h
  split at h
  · exact ⟨_, rfl, h⟩
  · exact h.elim
end

/-! ### slices -/
def rSlC (K : PySem.W.Frag) : V → Option Int → Option Int → Hp → VK → Prop := fun x lo hi H Q => match x with
  | .ref a => rSlL K (.ref a) lo hi H Q ∨ rSlT K (.ref a) lo hi H Q
  | .str z => rSlS (.str z) lo hi H Q
  | _ => False
def tPartC (t : TE) : TO := fun σ H Q => t σ H fun x H1 => match x with | .int i => Q (some i) H1 | _ => False
section
variable {X : Cx} {e : Expr} {te : TE}
theorem sc_U {K : PySem.W.Frag} (hK : X.K = K := by rfl) : SlR X (rSlC K) := hK ▸ fun pins s σ H x v vl vu lo hi sl Q I rx h1 h2 h3 h => (sl_list.or (sl_tup.or sl_str)) pins s σ H x v vl vu lo hi sl Q I rx h1 h2 h3 (by
  cases x <;> first | exact False.elim h | skip
  · exact .inr (.inr h)
  · exact h.elim (fun h => .inl h) fun h => .inr (.inl h))
theorem poc {e : Expr} {te : TE} (h : PE X e te) : PO X (some e) (tPartC te) := ⟨fun pins s σ H Q I q => (po_some (e := e) (te := fun σ H Q => te σ H fun x H1 => match x with | .int i => Q (.int i) H1 | _ => False) ⟨fun pins s σ H Q I q => by
  refine thn (h.run pins s σ H _ I q) fun v s1 hv => ?_
  obtain ⟨x, H1, I1, r1, q1⟩ := hv
  cases x with
  | int k => exact ⟨_, H1, I1, r1, q1⟩
  | _ => exact q1.elim⟩).run pins s σ H Q I (by
    show te σ H _
    have q' : te σ H fun x H1 => match x with | .int i => Q (some i) H1 | _ => False := q
    have eq : (fun (x : V) (H1 : Hp) => match x with | .int i => Q (some i) H1 | _ => False) = (fun (x : V) (H1 : Hp) => match x with | .int k => (fun (x : V) (H' : Hp) => ∃ k, x = .int k ∧ Q (some k) H') (.int k) H1 | _ => False) := by
      funext x H1
      cases x with
      | int k => exact propext ⟨fun q => ⟨k, rfl, q⟩, fun ⟨k', e, q⟩ => by cases e; exact q⟩
      | _ => rfl
    rw [eq] at q'
    exact q')⟩
end

/-! ### what is walked -/
section
variable {X : Cx} {tg e : Expr} {te : TE}
theorem pic_seq {K : PySem.W.Frag} (h : PE X e te) (hK : X.K = K := by rfl) : PI X tg e (fun σ H R => iList K te σ H R ∨ iTup K te σ H R) := hK ▸ (pi_list h).or (pi_tup h)
theorem pic_rev {K : PySem.W.Frag} {p pos : Pos} (hg : Gl X "reversed") (hm : X.mg "reversed" = none) (he : PE X e te) (hK : X.K = K := by rfl) (hs : starEach [e] X.env = (false, eval e X.env) :: starEach [] X.env := by rfl) : PI X tg (.Call (.Name "reversed" p) [e] [] pos) (RT.iRevA K te) := hK ▸ RT.pi_revA hg hm he hs
end
theorem walk_revT {K : PySem.W.Frag} {a : Addr} {xs : List V} : Walk (RT.ItvT K a xs.length) xs.length (fun H => SqT K H a xs) (fun i H x H' => H' = H ∧ xs[xs.length - 1 - i]? = some x) :=
  ⟨fun i _ hi q => ⟨hi, xs, xs[xs.length - 1 - i]'(by omega), q, by simp [show xs.length - 1 - i < xs.length by omega]⟩, fun _ _ => Nat.le_refl _, fun _ _ _ _ _ q y => ⟨y.1, y.2 xs q⟩⟩

/-! ### methods of lists -/
def rAppC : V → List V → Hp → VK → Prop := fun x vs H Q => match x, vs with
  | .ref l, [y] => ∃ xs, H l = some (.lst xs) ∧ xs.length < sizeLine ∧ Q .non (upd H l (.lst (xs ++ [y])))
  | _, _ => False
def rExtC : V → List V → Hp → VK → Prop := fun x vs H Q => match x, vs with
  | .ref l, [.ref b] => ∃ xs zs, H l = some (.lst xs) ∧ H b = some (.lst zs) ∧ xs.length + zs.length ≤ sizeLine ∧ Q .non (upd H l (.lst (xs ++ zs)))
  | _, _ => False
def rPopC : V → List V → Hp → VK → Prop := fun x vs H Q => match x, vs with
  | .ref l, [.int i] => ∃ (xs : List V) (k : Nat) (y : V), H l = some (.lst xs) ∧ i = (k : Int) ∧ k < 2 ^ 62 ∧ xs[k]? = some y ∧ Q y (upd H l (.lst (xs.eraseIdx k)))
  | .ref l, [] => ∃ (xs : List V) (y : V), H l = some (.lst xs) ∧ xs[xs.length - 1]? = some y ∧ Q y (upd H l (.lst xs.dropLast))
  | _, _ => False
def rRevC : V → List V → Hp → VK → Prop := fun x vs H Q => match x, vs with
  | .ref l, [] => ∃ xs, H l = some (.lst xs) ∧ Q .non (upd H l (.lst xs.reverse))
  | _, _ => False
/-- the receiver is a list that may be read -/
def tLM (K : PySem.W.Frag) (r : V → List V → Hp → VK → Prop) (to : TE) (t : TA) : TE := fun σ H Q => to σ H fun x H1 => match x with
  | .ref l => (∃ xs, SqL K H1 l xs) ∧ t σ H1 fun vs H2 => r (.ref l) vs H2 Q
  | _ => False
section
variable {X : Cx}
theorem mc_append : MtR X "list.append" rAppC := MtR.weak (r := rAppend) mt_append fun x vs H Q h => by
  unfold rAppC at h
  split at h
  · obtain ⟨xs, h⟩ := h; exact ⟨_, xs, _, rfl, rfl, h⟩
  · exact h.elim
theorem mc_extend : MtR X "list.extend" rExtC := MtR.weak (r := rExtend) mt_extend fun x vs H Q h => by
  unfold rExtC at h
  split at h
  · obtain ⟨xs, zs, h⟩ := h; exact ⟨_, _, xs, zs, rfl, rfl, h⟩
  · exact h.elim
theorem seqIndex_nat {k n : Nat} (h : k < n) : seqIndex? (k : Int) n = some k := by
  have := (ixN_seq (n := n) (i := (k : Int)) (j := k) (by unfold ixN; rw [if_pos (by omega), if_pos (by omega)]; simp)).1
  exact this
theorem mc_pop : MtR X "list.pop" rPopC := MtR.weak (MtR.or (r := rPopAt) (r' := rPop) mt_popAt mt_pop) fun x vs H Q h => by
  unfold rPopC at h
  split at h
  · obtain ⟨xs, k, y, h1, rfl, h2, h3, q⟩ := h
    have hk := (List.getElem?_eq_some_iff.mp h3).1
    exact .inl ⟨_, xs, _, k, y, rfl, rfl, h1, by omega, by omega, seqIndex_nat hk, h3, q⟩
  · obtain ⟨xs, y, h⟩ := h; exact .inr ⟨_, xs, y, rfl, rfl, h⟩
  · exact h.elim
theorem mc_reverse : MtR X "list.reverse" rRevC := MtR.weak (r := rReverse) mt_reverse fun x vs H Q h => by
  unfold rRevC at h
  split at h
  · obtain ⟨xs, h⟩ := h; exact ⟨_, xs, rfl, rfl, h⟩
  · exact h.elim
theorem tLM_of {K : PySem.W.Frag} {r : V → List V → Hp → VK → Prop} {to : TE} {t : TA} {σ : St} {H : Hp} {Q : VK} (mono : ∀ P P' : VK, (∀ v H', P v H' → P' v H') → to σ H P → to σ H P') (h : tLM K r to t σ H Q) : tBM K "list" r to t σ H Q :=
  mono _ _ (fun x H' q => by
    cases x with
    | ref l => exact ⟨.inl ⟨rfl, q.1⟩, q.2⟩
    | _ => exact q.elim) h
end

/-! ### heaps -/
/-- all that was tracked, but what stands at a, is as it was -/
def SameB (a : Addr) (H H' : Hp) : Prop := ∀ b o, b ≠ a → H b = some o → H' b = some o
theorem SameB.refl {a : Addr} {H : Hp} : SameB a H H := fun _ _ _ h => h
theorem SameB.trans {a : Addr} {H H1 H2 : Hp} (x : SameB a H H1) (y : SameB a H1 H2) : SameB a H H2 := fun b o n h => y b o n (x b o n h)
theorem SameB.of {a : Addr} {H H' : Hp} (x : Same H H') : SameB a H H' := fun b o _ h => x b o h
theorem SameB.at {a : Addr} {H : Hp} {o : HO} : SameB a H (upd H a o) := fun b u n h => by rw [upd_ne n]; exact h
theorem upd_new {H : Hp} {a b : Addr} {o u : HO} (h : H b = some u) (hn : H a = none) : upd H a o b = some u := by rw [upd_ne (ne_of_none h hn)]; exact h
theorem upd_oth {H : Hp} {a b : Addr} {o u : HO} (hn : b ≠ a) (h : H b = some u) : upd H a o b = some u := by rw [upd_ne hn]; exact h
theorem Same.new {H : Hp} {a : Addr} {o : HO} (hn : H a = none) : Same H (upd H a o) := fun _ _ h => upd_new h hn
theorem SameB.new {a p : Addr} {H : Hp} {o : HO} (hn : H p = none) : SameB a H (upd H p o) := SameB.of (Same.new hn)
/-- a write to what was not there at the start -/
theorem SameB.wr {a p : Addr} {H H1 : Hp} {o : HO} (x : SameB a H H1) (hn : H p = none) : SameB a H (upd H1 p o) := fun b u n h => by
  rw [upd_ne (ne_of_none h hn)]; exact x b u n h
theorem SameB.ws {a : Addr} {H H1 : Hp} {o : HO} (x : SameB a H H1) : SameB a H (upd H1 a o) := fun b u n h => by
  rw [upd_ne n]; exact x b u n h
theorem Same.wr {p : Addr} {H H1 : Hp} {o : HO} (x : Same H H1) (hn : H p = none) : Same H (upd H1 p o) := fun b u h => by
  rw [upd_ne (ne_of_none h hn)]; exact x b u h
theorem SameB.free {a : Addr} {H H' : Hp} (e : SameB a H H') {l : Addr} (n : l ≠ a) (h : H' l = none) : H l = none := by
  cases q : H l with
  | none => rfl
  | some o => rw [e l o n q] at h; cases h
theorem SameB.seq {K : PySem.W.Frag} {s a : Addr} {H H' : Hp} {xs : List V} (e : SameB s H H') (n : a ≠ s) (h : SqL K H a xs) : SqL K H' a xs := by
  rcases h with (h | ⟨o, h⟩) | h
  · exact .inl (.inl (e _ _ n h))
  · exact .inl (.inr ⟨o, e _ _ n h⟩)
  · exact .inr h
theorem SameB.seqT {K : PySem.W.Frag} {s a : Addr} {H H' : Hp} {xs : List V} (e : SameB s H H') (n : a ≠ s) (h : SqT K H a xs) : SqT K H' a xs := by
  rcases h with (h | ⟨o, h⟩) | h
  · exact .inl (.inl (e _ _ n h))
  · exact .inl (.inr ⟨o, e _ _ n h⟩)
  · exact .inr h
theorem Same.seqT {K : PySem.W.Frag} {H H' : Hp} {a : Addr} {xs : List V} (e : Same H H') (h : SqT K H a xs) : SqT K H' a xs := by
  rcases h with (h | ⟨o, h⟩) | h
  · exact .inl (.inl (e _ _ h))
  · exact .inl (.inr ⟨o, e _ _ h⟩)
  · exact .inr h

theorem upd_none {H : Hp} {a p : Addr} {o : HO} (h : upd H a o p = none) : H p = none := by
  by_cases e : p = a
  · subst e; rw [upd_same] at h; cases h
  · rw [upd_ne e] at h; exact h
theorem upd_none_ne {H : Hp} {a p : Addr} {o : HO} (h : upd H a o p = none) : p ≠ a := by
  intro e; subst e; rw [upd_same] at h; cases h
theorem SameB.get {s b : Addr} {H H' : Hp} {o : HO} (e : SameB s H H') (n : b ≠ s) (h : H b = some o) : H' b = some o := e b o n h
theorem Same.get {b : Addr} {H H' : Hp} {o : HO} (e : Same H H') (h : H b = some o) : H' b = some o := e b o h
/-- what was not there, is not the source -/
theorem SameB.free' {a : Addr} {H H' : Hp} {xs : List V} (e : SameB a H H') (ha : H' a = some (.lst xs)) {l : Addr} (h : H' l = none) : H l = none := e.free (ne_of_none ha h).symm h

theorem Same.transB {s : Addr} {H H1 H2 : Hp} (x : Same H H1) (y : SameB s H1 H2) (hs : H s = none) : Same H H2 := fun b o h => y b o (ne_of_none h hs) (x b o h)

/-! ### slices of any list -/
def cutL {α : Type} (xs : List α) (lo hi : Option Int) : List α := (xs.drop (HT.sIx xs.length 0 lo)).take (HT.sIx xs.length xs.length hi - HT.sIx xs.length 0 lo)
theorem cutV_map {α : Type} (f : α → V) (xs : List α) (lo hi : Option Int) : cutV (xs.map f) lo hi = (cutL xs lo hi).map f := by
  unfold cutV cutL
  rw [List.length_map, List.map_take, List.map_drop]
theorem cutL_length {α : Type} (xs : List α) (lo hi : Option Int) : (cutL xs lo hi).length ≤ xs.length := by
  unfold cutL
  rw [List.length_take, List.length_drop]
  omega
theorem cutL_mem {α : Type} {xs : List α} {lo hi : Option Int} {x : α} (h : x ∈ cutL xs lo hi) : x ∈ xs := List.mem_of_mem_drop (List.mem_of_mem_take h)

theorem cut_two {α : Type} (xs : List α) {a b : Int} (ha : 0 ≤ a) (hb : 0 ≤ b) : (cutL xs none (some a)).length + (cutL xs (some (a + b)) none).length ≤ xs.length := by
  obtain ⟨i, rfl⟩ := Int.eq_ofNat_of_zero_le ha
  obtain ⟨j, rfl⟩ := Int.eq_ofNat_of_zero_le hb
  unfold cutL
  rw [← Int.natCast_add, HT.sIx_none, HT.sIx_none, HT.sIx_nat, HT.sIx_nat]
  simp only [List.length_take, List.length_drop]
  omega

/-! ### lists of texts, of ints -/
theorem dpAll_str {K : PySem.W.Frag} {H : Hp} : ∀ xs : List Str, DpAll K H (xs.map V.str) (xs.map PyData.str)
  | [] => .nil
  | x :: xs => .cons (.str x) (dpAll_str xs)
theorem dpAll_int {K : PySem.W.Frag} {H : Hp} : ∀ xs : List Int, DpAll K H (xs.map V.int) (xs.map PyData.int)
  | [] => .nil
  | x :: xs => .cons (.int x) (dpAll_int xs)
theorem dpAll_bl {K : PySem.W.Frag} {H : Hp} : ∀ xs : List Bool, DpAll K H (xs.map V.bl) (xs.map PyData.bool)
  | [] => .nil
  | x :: xs => .cons (.bl x) (dpAll_bl xs)
theorem str_len_app (a b : Str) : (a ++ b).length = a.length + b.length := by
  show (a.cps ++ b.cps).size = a.cps.size + b.cps.size
  exact Array.size_append
theorem atI_mem {α : Type} {xs : List α} {d : Int} (h0 : 0 ≤ d) (h1 : d < xs.length) : ∃ v, v ∈ xs ∧ atI xs d = some v := by
  obtain ⟨j, rfl⟩ := Int.eq_ofNat_of_zero_le h0
  have hj : j < xs.length := by omega
  exact ⟨xs[j], List.getElem_mem hj, atI_nat (List.getElem?_eq_getElem hj)⟩
theorem atI_strs {ls : List Str} {d : Int} (h0 : 0 ≤ d) (h1 : d < ls.length) : ∃ z, z ∈ ls ∧ atI (ls.map V.str) d = some (.str z) := by
  obtain ⟨j, rfl⟩ := Int.eq_ofNat_of_zero_le h0
  have hj : j < ls.length := by omega
  exact ⟨ls[j], List.getElem_mem hj, atI_nat (by rw [List.getElem?_map, List.getElem?_eq_getElem hj]; rfl)⟩
theorem atI_ints {ls : List Int} {d : Int} (h0 : 0 ≤ d) (h1 : d < ls.length) : ∃ z, z ∈ ls ∧ atI (ls.map V.int) d = some (.int z) := by
  obtain ⟨j, rfl⟩ := Int.eq_ofNat_of_zero_le h0
  have hj : j < ls.length := by omega
  exact ⟨ls[j], List.getElem_mem hj, atI_nat (by rw [List.getElem?_map, List.getElem?_eq_getElem hj]; rfl)⟩
theorem rep_flat (k : Nat) (x : V) : (List.replicate k [x]).flatten = List.replicate k x := by
  induction k with
  | zero => rfl
  | succ k ih => rw [List.replicate_succ, List.flatten_cons, ih, List.replicate_succ]; rfl
theorem atI_map {α : Type} {xs : List α} {f : α → V} {i : Int} {j : Nat} {x : α} (e : i = (j : Int)) (h : xs[j]? = some x) : atI (xs.map f) i = some (f x) := by
  subst e
  exact atI_nat (by rw [List.getElem?_map, h]; rfl)
theorem atI_of {xs : List V} {i : Int} {j : Nat} {x : V} (e : i = (j : Int)) (h : xs[j]? = some x) : atI xs i = some x := by
  subst e
  exact atI_nat h
theorem ixN_of {n : Nat} {i : Int} {j : Nat} (e : i = (j : Int)) (h : j < n) : ixN n i = some j := by
  subst e
  unfold ixN
  rw [if_pos (by omega), if_pos (by omega)]
  rfl
theorem str_len_num {v : Int} (h0 : 0 ≤ v) {k : Nat} (hk : 0 < k) (h : v < 10 ^ k) : (Str.ofString (toString v)).length ≤ k := toString_length_le h0 hk h

/-! ### pairs of lists -/
theorem prd_app {α β : Type} {F : α → β → Prop} : ∀ {l₁ m₁ : List α} {l₂ m₂ : List β}, Paired F l₁ l₂ → Paired F m₁ m₂ → Paired F (l₁ ++ m₁) (l₂ ++ m₂)
  | _, _, _, _, .nil, h => h
  | _, _, _, _, .cons r t, h => .cons r (prd_app t h)
theorem prd_get {α β : Type} {F : α → β → Prop} : ∀ {l₁ : List α} {l₂ : List β} {i : Nat} {a : α}, Paired F l₁ l₂ → l₁[i]? = some a → ∃ b, l₂[i]? = some b ∧ F a b
  | _, _, _, _, .nil, e => by simp at e
  | _, _, 0, _, .cons r _, e => by simp at e; subst e; exact ⟨_, rfl, r⟩
  | _, _, i + 1, a, .cons _ t, e => by
    obtain ⟨b, h1, h2⟩ := prd_get (i := i) (a := a) t (by simpa using e)
    exact ⟨b, by simpa using h1, h2⟩
theorem prd_map {α β γ : Type} {F : α → β → Prop} {G : α → γ → Prop} (g : β → γ) (h : ∀ a b, F a b → G a (g b)) : ∀ {l₁ : List α} {l₂ : List β}, Paired F l₁ l₂ → Paired G l₁ (l₂.map g)
  | _, _, .nil => .nil
  | _, _, .cons r t => .cons (h _ _ r) (prd_map g h t)
theorem prd_mono {α β : Type} {F G : α → β → Prop} (h : ∀ a b, F a b → G a b) : ∀ {l₁ : List α} {l₂ : List β}, Paired F l₁ l₂ → Paired G l₁ l₂
  | _, _, .nil => .nil
  | _, _, .cons r t => .cons (h _ _ r) (prd_mono h t)
theorem prd_mem {α β : Type} {F : α → β → Prop} : ∀ {l₁ : List α} {l₂ : List β} {a : α}, Paired F l₁ l₂ → a ∈ l₁ → ∃ b, b ∈ l₂ ∧ F a b
  | _, _, _, .nil, e => by cases e
  | _, _, a, .cons (a := a') (b := b') r t, e => by
    rcases List.mem_cons.mp e with h | h
    · subst h; exact ⟨b', List.mem_cons_self, r⟩
    · obtain ⟨b, h1, h2⟩ := prd_mem t h
      exact ⟨b, List.mem_cons_of_mem _ h1, h2⟩
/-- a list of lists of texts: their addresses, and what stands there -/
def LLs (H : Hp) (as : List Addr) (cs : List (List Str)) : Prop := Paired (fun a c => H a = some (.lst (c.map V.str))) as cs
theorem LLs.same {H H' : Hp} {as : List Addr} {cs : List (List Str)} (h : LLs H as cs) (e : Same H H') : LLs H' as cs := prd_mono (fun a _ q => e a _ q) h

/-! ### the law's source of numbers -/
/-- three ints: what is left of the digits, the mixed one, how many were drawn (at most k) -/
def SrcL (k : Nat) (xs : List V) : Prop := ∃ a b c : Int, xs = [.int a, .int b, .int c] ∧ 0 ≤ a ∧ 0 ≤ b ∧ b < 2 ^ 200 ∧ 0 ≤ c ∧ c ≤ (k : Int)
theorem SrcL.mono {k m : Nat} {xs : List V} (h : SrcL k xs) (hk : k ≤ m) : SrcL m xs := by
  obtain ⟨a, b, c, e, h1, h2, h3, h4, h5⟩ := h
  exact ⟨a, b, c, e, h1, h2, h3, h4, by omega⟩
/-- a draw: bounds, and the source with one more drawn -/
def spDraw : Sp := fun vs H Q _ => ∃ (s : Addr) (n : Int) (k : Nat) (xs : List V), vs = [.ref s, .int n] ∧ H s = some (.lst xs) ∧ SrcL k xs ∧ k < 2 ^ 60 ∧ 0 < n ∧ n < 2 ^ 200 ∧
  ∀ (d : Int) (ys : List V), 0 ≤ d → d < n → SrcL (k + 1) ys → Q (.int d) (upd H s (.lst ys))
/-- a new source -/
def spSource (K : PySem.W.Frag) : Sp := fun vs H Q _ => ∃ (a : Addr) (i : Int) (ns : List Int), vs = [.ref a, .int i] ∧ SqL K H a (ns.map V.int) ∧ ns.length ≤ 63 ∧ 0 ≤ i ∧ i < 2 ^ 60 ∧
  ∀ (p : Addr) (xs : List V), H p = none → SrcL 0 xs → Q (.ref p) (upd H p (.lst xs))
/-- the law: the script is a list of at most 63 ints, the answer is True -/
def spLaw (K : PySem.W.Frag) : Sp := fun vs H Q _ => ∃ (a : Addr) (ns : List Int), vs = [.ref a] ∧ SqL K H a (ns.map V.int) ∧ ns.length ≤ 63 ∧ ∀ H', Q (.bl true) H'
end L2

/-! super().m(..) within a method of the text: judgements at a known activation. -/
namespace L2
open PySem PySem.Spec PyProof.Rows

structure PEa (X : Cx) (c : Code) (e : Expr) (t : TE) : Prop where
  run : ∀ (pins : List (Addr × Obj)) (s : Shared) (σ : St) (H : Hp) (Q : VK), Inv X pins σ H s → t σ H Q → _root_.PySem.wpAt (model X.prog X.w) X.A c (eval e X.env) (EP X pins σ Q) X.xe s
structure PSa (X : Cx) (c : Code) (st : Stmt) (t : TS) : Prop where
  run : ∀ (pins : List (Addr × Obj)) (s : Shared) (σ : St) (H : Hp) (D : Ends), Inv X pins σ H s → t D σ H → _root_.PySem.wpAt (model X.prog X.w) X.A c (exec st X.env) (SP X pins D) X.xe s
structure PSsa (X : Cx) (c : Code) (st : List Stmt) (t : TS) : Prop where
  run : ∀ (pins : List (Addr × Obj)) (s : Shared) (σ : St) (H : Hp) (D : Ends), Inv X pins σ H s → t D σ H → _root_.PySem.wpAt (model X.prog X.w) X.A c (execs st X.env) (SP X pins D) X.xe s
section
variable {X : Cx} {c : Code} {e a b : Expr} {te ta tb : TE} {pos : Pos}
theorem PE.ata (h : PE X e te) : PEa X c e te := ⟨fun pins s σ H Q I q => PySem.wpAt_of_wpAny (h.run pins s σ H Q I q)⟩
theorem psa_ret (h : PEa X c e te) : PSa X c (.Return (some e) pos) (tRet te) := ⟨fun pins s σ H D I q =>
  ks_wpAt_Return_some (PySem.wpAt_mono (h.run pins s σ H _ I q) (fun v s1 ⟨x, H1, I1, r1, q1⟩ => ⟨x, σ, H1, I1, r1, q1⟩) fun _ _ z => z)⟩
theorem psa_expr (h : PEa X c e te) (hs : swapsWith e none pos.line X.env = pure false := by rfl) : PSa X c (.Expr e pos) (tDrop te) := ⟨fun pins s σ H D I q =>
  ks_wpAt_Expr_any (PySem.wpAt_mono (h.run pins s σ H _ I q) (fun v s1 ⟨x, H1, I1, r1, q1⟩ => ⟨σ, H1, I1, q1⟩) fun _ _ z => z) I.quiet hs⟩
theorem pea_op {op : Operator} {r : R2} (ho : OpR X (binaryOp op) r) (ha : PEa X c a ta) (hb : PE X b tb) : PEa X c (.BinOp a op b pos) (tOp r ta tb) := ⟨fun pins s σ H Q I q =>
  ks_wpAt_BinOp (PySem.wpAt_mono (ha.run pins s σ H _ I q) (fun v s1 ⟨x, H1, I1, r1, q1⟩ => thn (hb.run pins s1 σ H1 _ I1 q1) fun u s2 ⟨y, H2, I2, r2, q2⟩ => ho pins s2 σ H2 x y v u Q I2 r1 r2 q2) fun _ _ z => z)⟩
theorem pssa_cons {st : Stmt} {rest : List Stmt} {t u : TS} (h1 : PSa X c st t) (h2 : PSs X rest u) : PSsa X c (st :: rest) (tSeq t u) := ⟨fun pins s σ H D I q => by
  refine ks_wpAt_execs_cons (PySem.wpAt_mono (h1.run pins s σ H { D with nx := u D } I q) (fun f s1 q1 => ?_) fun _ _ z => z)
  cases f with
  | next =>
    obtain ⟨σ', H', I', q1⟩ := q1
    exact PySem.wpAt_of_wpAny (h2.run pins s1 σ' H' D I' q1)
  | ret v => exact q1
  | brk => exact q1
  | cont => exact q1⟩
theorem pssa_one {st : Stmt} {t : TS} (h1 : PSa X c st t) : PSsa X c [st] (tSeq t tNext) := pssa_cons h1 pss_nil
end

/-- a def's first parameter -/
def argOf (st : Stmt) : Arg := ((defArgs st).posonlyargs ++ (defArgs st).args).headD { arg := "", annotation := none, pos := ⟨0, 0, 0, 0⟩ }
/-- how the method m behind D, for an instance of C, is found -/
structure SupIn (K : PySem.W.Frag) (C D : Addr) (m : Str) (f2 : Addr) : Prop where
  sub : PySem.W.mroIn K C (.ref D) = some true
  sup : PySem.W.ks_superIn K C D m = some (some (.ref f2))
/-- what the text says of super in a method at f of the class D -/
structure SupTx (P : Program) (K : PySem.W.Frag) (mg : Str → Option Value) (f cda D : Addr) (file : Str) : Prop where
  code : ∃ (ccl : Value) (cdd : Option Addr) (vs : Array Value) (ccs : Array (Option Value)) (tf : Tok), K.lookup cda = some ⟨ccl, cdd, .fields vs, ccs⟩ ∧ vs[2]? = some (.str file tf)
  file : ((P.main.file : Str) == file) = true
  top : (P.main.scope.names.lookup ("super" : Str)).isSome = false
  mg : mg "super" = none
  cls : ∃ cd, PySem.W.clsIn K D = some cd
  any : PySem.W.nsIn K cStatics "thirdparty.any" = some none
def tSup (K : PySem.W.Frag) (D : Addr) (m : Str) (f2 : Addr) (j : Nat) (sp : Sp) (dvs : List V) (E : XK) (t : TA) : TE := fun σ H Q => ∃ x C dx fs, σ[0]? = some (some (.ref x)) ∧ σ[j]? = some (some (.ref D)) ∧ H x = some (.ins C dx fs) ∧ SupIn K C D m f2 ∧
  t σ H fun vs H1 => sp (.ref x :: vs ++ dvs) H1 Q E
section
variable {X : Cx} {CX : CXT} {k : Nat} {f C : Addr} {fd : FuncData} {ps : List Str} {sp : Sp} {dvs : List V} {ds : List Value} {E : XK} {x m : Str} {p pos apos : Pos} {e o : Expr} {es : List Expr} {ta : TE} {t : TA}
theorem run_fnC {pins : List (Addr × Obj)} {σ : St} {H : Hp} {s : Shared} {Q : VK} {us : List Value} {vs : List V} (F : FnOk X.prog X.w X.K X.mg X.base CX k f fd ps sp) (hr : Room k X.A) (hb : Binds X.K fd ps ds) (hd : Vals dvs ds) (hx : Passes CX X E)
    (I : Inv X pins σ H s) (r : Vals vs us) (h : sp (vs ++ dvs) H Q E) : codeAny (model X.prog X.w) X.A (.call (.ref f) ⟨us, []⟩) (wants (EP X pins σ Q) X.xe) s := by
  have r2 : Vals (vs ++ dvs) (us ++ ds) := r.append hd
  have hl : (us ++ ds).length = ps.length := by rw [← r2.length]; exact F.len _ _ _ _ h
  refine codeAny_mono (F.run X.A X.stack s H ⟨us, []⟩ (us ++ ds) (vs ++ dvs) Q E hr I.env0 (hb s us I.kIn hl) r2 h) fun r s' hq => ?_
  cases r with
  | error e => exact hx pins σ H s e s' I hq
  | ok fl =>
    cases fl with
    | ret u => exact I.after hq
    | next => exact False.elim hq
    | brk => exact False.elim hq
    | cont => exact False.elim hq
theorem ldn {A : Around} {E : Value → Shared → Prop} {pins : List (Addr × Obj)} {s : Shared} {σ : St} {H : Hp} {i : Nat} {y : Str} {v : V} {Q : Value → Shared → Prop} (I : Inv X pins σ H s) (hN : X.N[i]? = some y) (hv : Vis X.env.scope y) (e : σ[i]? = some (some v)) (hcd : (y == ("__classdict__" : Str)) = false)
    (h : ∀ u, RelV v u → Q u s) : wpAny (model X.prog X.w) A (loadName X.env y) Q E s := by
  obtain ⟨m, hn, hl⟩ := I.loc
  obtain ⟨u, r, l⟩ := hl i y v hN e hv
  rcases l with ⟨hk, hm⟩ | ⟨hk, c, hc, hcell⟩
  · exact wpAny_loadName_local I.ok.kind hk hn hm (h u r)
  · rcases hk with hk | hk
    · exact wpAny_loadName_cell I.ok.kind hk hc hcell (h u r)
    · exact wpAny_loadName_free I.ok.kind hk hc hcell (h u r) hcd
/-- the object of super, made -/
theorem sup_base {pins : List (Addr × Obj)} {s : Shared} {σ : St} {H : Hp} {body : List Stmt} {p0 p1 : Pos} {attr : Str} {whole : Sem Value} {g cda D x C dx : Addr} {gd : FuncData} {ar : Arg} {file : Str} {fs : List (Str × V)} {j : Nat} {oc : Value} {od : Option Addr} {osl : Array (Option Value)} {Q : Value → Shared → Prop} {E : Value → Shared → Prop}
    (I : Inv X pins σ H s) (T : SupTx X.prog X.K X.mg g cda D file) (hks : X.env.scope.names.lookup ("super" : Str) = some .globalImplicit) (hkc : X.env.scope.names.lookup ("__class__" : Str) = some .free) (hat : (attr == ("__class__" : Str)) = false)
    (hfu : X.env.func = some g) (hf : X.K.lookup g = some ⟨oc, od, .func gd, osl⟩) (hp : (gd.params.posonlyargs ++ gd.params.args).head? = some ar) (hco : X.env.code = .ref cda)
    (h0 : X.N[0]? = some ar.arg) (v0 : Vis X.env.scope ar.arg) (c0 : (ar.arg == ("__classdict__" : Str)) = false) (hj : X.N[j]? = some "__class__") (e0 : σ[0]? = some (some (.ref x))) (ej : σ[j]? = some (some (.ref D))) (ex : H x = some (.ins C dx fs)) (hs : PySem.W.mroIn X.K C (.ref D) = some true)
    (h : ∀ h', h'.get? s.heap.objs.size = some (PySem.W.ks_superObj D x C) → (∀ y o, s.heap.get? y = some o → h'.get? y = some o) → Q (.ref s.heap.objs.size) { s with heap := h' }) :
    _root_.PySem.wpAt (model X.prog X.w) X.A (.func body X.env) (attributeBase (.Call (.Name "super" p0) [] [] p1) attr X.env whole) Q E s := by
  obtain ⟨⟨ccl, cdd, vs, ccs, tf, hcode, hvs⟩, hfile, htop, hmg, ⟨cdD, hD⟩, hany⟩ := T
  have KX := I.kIn
  obtain ⟨oD, hD1, hD2⟩ : ∃ oD, s.heap.get? D = some oD ∧ oD.data = .cls cdD := by
    unfold PySem.W.clsIn at hD
    split at hD
    · rename_i c d cd' sl ho
      cases hD
      exact ⟨_, KX _ _ ho, rfl⟩
    · cases hD
  obtain ⟨mA, O, _⟩ := ins_get I.hok ex
  obtain ⟨odd, J, _⟩ := O.look
  refine ks_wpAt_super_base (env := X.env) hks hkc hat hfu (KX _ _ hf) rfl hp hco (KX _ _ hcode) rfl hvs hfile htop ?_
  obtain ⟨mb, hb1, hb2⟩ := I.mod.blt
  refine PySem.W.ks_loadName_global I.ok.kind hks (Calls.loadGlobal_builtin (by rw [I.ok.glob]; exact I.mod.glob.keeps I.bk) hmg (by rw [I.ok.blt]; exact hb1.keeps I.bk) ((hb2 _ (by decide +kernel)).trans (by decide +kernel)) ⟨rfl, ?_⟩)
  refine ldn I hj (.inr (.inr hkc)) ej (by decide) fun u ru => ?_
  obtain rfl : u = .ref D := ru
  refine ldn I h0 v0 e0 c0 fun u ru => ?_
  obtain rfl : u = .ref x := ru
  obtain ⟨hh, g', d', t', os'⟩ := s
  refine ks_wpAny_isType_cls hD1 hD2 ⟨rfl, ?_⟩
  refine ks_wpAny_call_super hD1 hD2 J.at_ J.cls (fun c e => ?_) (PySem.W.looks_mroIn KX hs) (fun h' e k => h h' e k)
  have := J.no
  unfold PySem.W.notCls at this
  rw [e] at this
  exact Bool.noConfusion this
/-- .. and its method, bound: what stands then -/
theorem sup_meth {pins : List (Addr × Obj)} {s : Shared} {σ : St} {H : Hp} {pl : Sem Bool} {f2 so D x C dx g cda : Addr} {file : Str} {fs : List (Str × V)} {A : Around} {Q : Value × List Value → Shared → Prop} {E : Value → Shared → Prop}
    (I : Inv X pins σ H s) (T : SupTx X.prog X.K X.mg g cda D file) (ex : H x = some (.ins C dx fs)) (hs : SupIn X.K C D m f2) (hf : PySem.W.isFn X.K (.ref f2) = true) (hn : (m == ("__class__" : Str)) = false) (hso : s.heap.get? so = some (PySem.W.ks_superObj D x C))
    (h : Q (.ref s.heap.objs.size, []) { s with heap := s.heap.push { cls := .type "method", data := .fields #[.ref f2, .ref x] }, toks := s.toks + 1 }) : wpAny (model X.prog X.w) A (getMethod (.ref so) m pl) Q E s := by
  have KX := I.kIn
  obtain ⟨mA, O, _⟩ := ins_get I.hok ex
  obtain ⟨odd, J, _⟩ := O.look
  have hm := hs.sup
  cases hc : PySem.W.clsIn X.K C with
  | none => unfold PySem.W.ks_superIn at hm; rw [hc] at hm; cases hm
  | some cd =>
    unfold PySem.W.ks_superIn at hm
    rw [hc] at hm
    obtain ⟨of, hof, hofc⟩ : ∃ of, s.heap.get? f2 = some of ∧ of.cls = .type "function" := by
      have ht' : (X.K.lookup f2).map (·.cls) = some (.type "function") := beq_iff_eq.mp hf
      cases z : X.K.lookup f2 with
      | none => rw [z] at ht'; cases ht'
      | some of => rw [z] at ht'; exact ⟨of, KX _ _ z, Option.some.inj ht'⟩
    obtain ⟨hh, g', d', t', os'⟩ := s
    refine ks_wpAny_getMethod_super hso (PySem.W.looks_opaque KX T.any) (l₀ := cd.mro) ?_ rfl KX hm hof hofc (PySem.W.ks_ne KX J hc) hn h
    exact fun A Q E s k q => wpAny_bind ((PySem.W.looks_clsIn KX hc) A _ E s k (wpAny_pure q))
/-- super().m() -/
theorem pea_super0 {pl : Sem Bool} {body : List Stmt} {p0 p1 : Pos} {g cda D f2 : Addr} {gd : FuncData} {ar : Arg} {file : Str} {j : Nat} {oc : Value} {od : Option Addr} {osl : Array (Option Value)}
    (T : SupTx X.prog X.K X.mg g cda D file) (hks : X.env.scope.names.lookup ("super" : Str) = some .globalImplicit) (hkc : X.env.scope.names.lookup ("__class__" : Str) = some .free) (hat : (m == ("__class__" : Str)) = false)
    (hfu : X.env.func = some g) (hg : X.K.lookup g = some ⟨oc, od, .func gd, osl⟩) (hp : (gd.params.posonlyargs ++ gd.params.args).head? = some ar) (hco : X.env.code = .ref cda)
    (h0 : X.N[0]? = some ar.arg) (v0 : Vis X.env.scope ar.arg) (c0 : (ar.arg == ("__classdict__" : Str)) = false) (hj : X.N[j]? = some "__class__")
    (F : FnOk X.prog X.w X.K X.mg X.base CX k f2 fd ps sp) (hr : Room k X.A) (hb : Binds X.K fd ps ds) (hd : Vals dvs ds) (hx : Passes CX X E) (hf : PySem.W.isFn X.K (.ref f2) = true) (hfn : PySem.W.fnIn X.K f2 = true)
    (he : eval (.Call (.Attribute (.Call (.Name "super" p0) [] [] p1) m apos) [] [] pos) X.env = (do
      let ov ← attributeBase (.Call (.Name "super" p0) [] [] p1) m X.env (eval (.Call (.Name "super" p0) [] [] p1) X.env)
      standAt apos.atName
      let (f, first) ← holding [ov] (getMethod ov m pl)
      callWith pos f first (backTo pos (starEach [] X.env)) []) := by rfl) :
    PEa X (.func body X.env) (.Call (.Attribute (.Call (.Name "super" p0) [] [] p1) m apos) [] [] pos) (tSup X.K D m f2 j sp dvs E tNil) := by
  refine ⟨fun pins s σ H Q I q => ?_⟩
  obtain ⟨x, C, dx, fs, e0, ej, ex, hs, q⟩ := q
  refine ks_wpAt_MethodCall (pl := pl) (sup_base I T hks hkc hat hfu hg hp hco h0 v0 c0 hj e0 ej ex hs.sub fun h' hso kp => ?_) he
  have I1 : Inv X pins σ H { s with heap := h' } := I.kept (t' := s.toks) kp
  refine sup_meth I1 T ex hs hf hat hso ?_
  have I2 : Inv X pins σ H { s with heap := h'.push { cls := .type "method", data := .fields #[.ref f2, .ref x] }, toks := s.toks + 1 } := I1.kept (t' := s.toks + 1) fun b o e => Heap.get?_push_of_some _ e
  have hmo : (h'.push { cls := .type "method", data := .fields #[.ref f2, .ref x] }).get? h'.objs.size = some (PySem.W.methodObj (.ref f2) (.ref x)) := Heap.get?_push_at rfl rfl
  refine PySem.W.callWith_M0 (K := X.K) ⟨hmo, I2.kIn⟩ hfn ?_
  refine wpAny_call (ks_codeAny_call_bound hmo ?_)
  exact run_fnC (us := [.ref x]) (vs := [.ref x]) F hr hb hd hx I2 (.cons rfl .nil) q
/-- super().m(e, ..) -/
theorem pea_super {pl : Sem Bool} {body : List Stmt} {p0 p1 : Pos} {g cda D f2 : Addr} {gd : FuncData} {ar : Arg} {file : Str} {j : Nat} {oc : Value} {od : Option Addr} {osl : Array (Option Value)}
    (T : SupTx X.prog X.K X.mg g cda D file) (hks : X.env.scope.names.lookup ("super" : Str) = some .globalImplicit) (hkc : X.env.scope.names.lookup ("__class__" : Str) = some .free) (hat : (m == ("__class__" : Str)) = false)
    (hfu : X.env.func = some g) (hg : X.K.lookup g = some ⟨oc, od, .func gd, osl⟩) (hp : (gd.params.posonlyargs ++ gd.params.args).head? = some ar) (hco : X.env.code = .ref cda)
    (h0 : X.N[0]? = some ar.arg) (v0 : Vis X.env.scope ar.arg) (c0 : (ar.arg == ("__classdict__" : Str)) = false) (hj : X.N[j]? = some "__class__")
    (F : FnOk X.prog X.w X.K X.mg X.base CX k f2 fd ps sp) (hr : Room k X.A) (hb : Binds X.K fd ps ds) (hd : Vals dvs ds) (hx : Passes CX X E) (hf : PySem.W.isFn X.K (.ref f2) = true) (hfn : PySem.W.fnIn X.K f2 = true) (ha : PA X (e :: es) t)
    (hst : starEach (e :: es) X.env = (false, eval e X.env) :: starEach es X.env := by rfl) (hpl : (backTo pos (starEach es X.env)).any (·.1) = false := by rfl)
    (he : eval (.Call (.Attribute (.Call (.Name "super" p0) [] [] p1) m apos) (e :: es) [] pos) X.env = (do
      let ov ← attributeBase (.Call (.Name "super" p0) [] [] p1) m X.env (eval (.Call (.Name "super" p0) [] [] p1) X.env)
      standAt apos.atName
      let (f, first) ← holding [ov] (getMethod ov m pl)
      callWith pos f first (backTo pos (starEach (e :: es) X.env)) []) := by rfl) :
    PEa X (.func body X.env) (.Call (.Attribute (.Call (.Name "super" p0) [] [] p1) m apos) (e :: es) [] pos) (tSup X.K D m f2 j sp dvs E t) := by
  refine ⟨fun pins s σ H Q I q => ?_⟩
  obtain ⟨x, C, dx, fs, e0, ej, ex, hs, q⟩ := q
  refine ks_wpAt_MethodCall (pl := pl) (sup_base I T hks hkc hat hfu hg hp hco h0 v0 c0 hj e0 ej ex hs.sub fun h' hso kp => ?_) he
  have I1 : Inv X pins σ H { s with heap := h' } := I.kept (t' := s.toks) kp
  refine sup_meth I1 T ex hs hf hat hso ?_
  have I2 : Inv X pins σ H { s with heap := h'.push { cls := .type "method", data := .fields #[.ref f2, .ref x] }, toks := s.toks + 1 } := I1.kept (t' := s.toks + 1) fun b o e => Heap.get?_push_of_some _ e
  have hmo : (h'.push { cls := .type "method", data := .fields #[.ref f2, .ref x] }).get? h'.objs.size = some (PySem.W.methodObj (.ref f2) (.ref x)) := Heap.get?_push_at rfl rfl
  have hfr : H h'.objs.size = none := I1.hok.fresh (Nat.le_refl _)
  have I3 : Inv X ((h'.objs.size, PySem.W.methodObj (.ref f2) (.ref x)) :: pins) σ H { s with heap := h'.push { cls := .type "method", data := .fields #[.ref f2, .ref x] }, toks := s.toks + 1 } := by
    refine I2.pins_of fun p hp => ?_
    rcases List.mem_cons.mp hp with rfl | hp
    · refine ⟨hmo, hfr, fun z => ?_, I1.nofs (Nat.le_refl _), fun v z => nomatch z⟩
      exact absurd I1.lt (by rw [← z]; exact Nat.lt_irrefl _)
    · exact I2.pin p (List.mem_append_right _ hp)
  have hcall := PySem.W.callWith_M (K := X.K) (pos := pos) (first := []) (h₀ := X.base) (L := X.env.locals) (news := [(h'.objs.size, PySem.W.methodObj (.ref f2) (.ref x))]) (q := h'.objs.size) (g := f2) (self := .ref x) (M := model X.prog X.w) (A := X.A) (E := X.xe) (Q := EP X pins σ Q) I.mod.kin (fun p hp => by
    obtain rfl := List.mem_singleton.mp hp
    refine ⟨hmo, fun z => absurd I1.lt (by rw [← z]; exact Nat.lt_irrefl _), ?_⟩
    cases z : X.base.get? h'.objs.size with
    | none => rfl
    | some o => exact absurd (Heap.lt_size (I1.bk _ _ z)) (Nat.lt_irrefl _)) List.mem_cons_self hfn (thn (ha.run pos _ _ σ H _ I3 q) fun us s2 ⟨vs, H2, I4, r, q2⟩ => ⟨⟨(I4.pin _ (List.mem_append_right _ List.mem_cons_self)).1, I4.kIn⟩, ?_⟩) hst hpl
  · exact hcall
  · have hm2 := (I4.pin (h'.objs.size, PySem.W.methodObj (.ref f2) (.ref x)) (List.mem_append_right _ List.mem_cons_self)).1
    refine wpAny_call (ks_codeAny_call_bound hm2 ?_)
    have I5 : Inv X pins σ H2 s2 := I4.pins_of fun p hp => I4.pin p (List.mem_append_right _ (List.mem_cons_of_mem _ hp))
    exact run_fnC (us := .ref x :: us) (vs := .ref x :: vs) F hr hb hd hx I5 (.cons rfl r) q2
end

/-! ### a method that names super -/
theorem look1 {y k : Str} {c d : Addr} (h : [(k, c)].lookup y = some d) : y = k ∧ d = c := by
  rw [List.lookup_cons] at h
  split at h
  · rename_i e
    exact ⟨eq_of_beq e, (Option.some.inj h).symm⟩
  · cases h
/-- the method st of the class at D, closed over __class__ -/
structure FunS (K : PySem.W.Frag) (x qual : Str) (st : Stmt) (f cda D : Addr) (fd : FuncData) : Prop where
  ex : ∃ (oc : Value) (od : Option Addr) (kV doc pm : Value) (an : Option Addr) (ct : Value) (osl : Array (Option Value)) (cc : Addr) (cl : Value) (cld : Option Addr) (csl : Array (Option Value)),
    fd = PySem.W.ksFn x qual (defArgs st) (defBody st) (defScope st) .none kV doc pm an (.ref cda) ct cc ∧ K.lookup f = some ⟨oc, od, .func fd, osl⟩ ∧ PySem.W.codeIn K (.ref cda) qual = true ∧ K.lookup cc = some ⟨cl, cld, .cell (some (.ref D)), csl⟩
  kp : PySem.W.keepIn K (.ref f) = true
section
variable {P : Program} {w : World} {K : PySem.W.Frag} {mg : Str → Option Value} {base : Heap} {CX : CXT}
abbrev nfOf (x qual : Str) (st : Stmt) (cda cc : Addr) : NdefX.NF := ⟨x, qual, defArgs st, defBody st, defScope st, [("__class__", cc)], cda⟩
theorem FunS.ok {x qual : Str} {st : Stmt} {f cda D : Addr} {fd : FuncData} {N ps : List Str} {k : Nat} {sp : Sp} (F : FunS K x qual st f cda D fd) (S : NdefX.NScope N ps ["__class__"] (defScope st)) (len : ∀ vs H Q E, sp vs H Q E → vs.length = ps.length)
    (hbody : ∀ (cc : Addr) (oc : Value) (od : Option Addr) (osl : Array (Option Value)) (A : Around) (outer : List Env) (s : Shared) (H : Hp) (vs : List V) (Q : VK) (E : XK), K.lookup f = some ⟨oc, od, .func fd, osl⟩ → fd.params = defArgs st →
      Room k (A.deeper (NdefX.envF (nfOf x qual st cda cc) f s.heap.objs.size)) → sp vs H Q E →
      ∃ t, PSsa (NdefX.ncx CX P w K mg base N (nfOf x qual st cda cc) f A outer s H E) (.func (defBody st) (NdefX.envF (nfOf x qual st cda cc) f s.heap.objs.size)) (defBody st) t ∧ t { nx := fun _ H' => Q .non H', rt := Q } (NdefX.startF N vs [some (.ref D)]) H) :
    FnOk P w K mg base CX (k + 1) f fd ps sp := by
  obtain ⟨oc, od, kV, doc, pm, an, ct, osl, cc, cl, cld, csl, rfl, lk, hcd, hcc⟩ := F.ex
  refine ⟨len, fun A outer s H args us vs Q E hr e0 hb r hsp => ?_⟩
  have hl := len _ _ _ _ hsp
  have KX : K.In s.heap := e0.mod.kin.keeps fun b o e => (e0.bs b o e).1
  have lim : s.heap.NoLimit := e0.mod.nolimit.keeps fun b o e => (e0.bs b o e).1
  refine ks_codeAny_call_defAt (binds := ps.zip us) hr.depth (KX _ _ lk) rfl lim (PySem.W.codeRec_of KX hcd) rfl hb S.nocell (fun y hy => S.par y.1 (List.of_mem_zip hy).1) (fun h₁ hns kp => ?_) S.co S.gen S.kind
  obtain ⟨t, ht, hq⟩ := hbody cc oc od osl A outer s H vs Q E lk rfl (hr.deeper _) hsp
  have C : NdefX.CellsAt [("__class__", cc)] ["__class__"] [some (V.ref D)] s.heap H := by
    have hcc' := KX _ _ hcc
    have hn : H cc = none := (e0.bs _ _ (e0.mod.kin _ _ hcc)).2
    refine ⟨rfl, fun y c e => ?_, fun y z c e1 e2 => ?_, fun i y hi => ?_⟩
    · obtain ⟨_, rfl⟩ := look1 e
      exact ⟨hn, _, _, hcc', rfl⟩
    · rw [(look1 e1).1, (look1 e2).1]
    · cases i with
      | zero =>
        have : y = "__class__" := by simpa using hi.symm
        subst this
        refine ⟨cc, by rw [List.lookup_cons, beq_self_eq_true], fun v hv => ?_⟩
        have : v = .ref D := by simpa using hv.symm
        subst this
        exact ⟨.ref D, rfl, _, hcc', rfl⟩
      | succ i => simp at hi
  have I : Inv (NdefX.ncx CX P w K mg base N (nfOf x qual st cda cc) f A outer s H E) [] (NdefX.startF N vs [some (V.ref D)]) H { s with heap := h₁, toks := s.toks + (ps.zip us).length } := NdefX.inv_startN (F := nfOf x qual st cda cc) S hr.hd e0 hl r C hns kp
  refine PySem.wpAt_mono (ht.run [] _ _ H _ I hq) (fun fl s' hs => ?_) fun e s' hs => hs
  have fin : ∀ {σ' : L2.St} {H' : Hp} {v : V} {u : Value}, Inv (NdefX.ncx CX P w K mg base N (nfOf x qual st cda cc) f A outer s H E) [] σ' H' s' → L2.RelV v u → Q v H' → CE outer P w H s Q u s' :=
    fun {σ' H' v u} J rv q => ⟨v, H', J.os, J.bare, J.base, J.hok, rv, q⟩
  cases fl with
  | ret u =>
    obtain ⟨v, σ', H', J, rv, q⟩ := hs
    exact fin J rv q
  | next =>
    obtain ⟨σ', H', J, q⟩ := hs
    exact fin (v := V.non) (u := Value.none) J rfl q
  | brk =>
    obtain ⟨_, _, _, q⟩ := hs
    exact False.elim q
  | cont =>
    obtain ⟨_, _, _, q⟩ := hs
    exact False.elim q
end
end L2

/-! == and != with both answers, where items are compared by an own __eq__. -/
namespace GB
open PySem PySem.SeqAt
open AutoSeq1 (wpAny_loadPart')
open MeetsSeq MeetsSeq2 MeetsSeq3 SeqRoads2
open GQ (FinOf)
section
variable {prog : Program} {w : World} {A : Around} {R : Result → Shared → Prop}
/-- the two lists read anew at each turn; the i-th two are equal as e says -/
def ListB (prog : Program) (w : World) (A : Around) (E : Value → Shared → Prop) (l b : Addr) (N : Nat) (e : Nat → Bool) (I : Shared → Prop) : Prop :=
  ∀ s, I s → ∃ (items items2 : Array Value) (n n2 : Nat), s.heap.get? l = some { cls := .type "list", data := .seq items n } ∧ s.heap.get? b = some { cls := .type "list", data := .seq items2 n2 } ∧ items.size = N ∧ items2.size = N ∧
    ∀ i (h1 : i < items.size) (h2 : i < items2.size), wpAny (model prog w) A.in1 (eqBool items[i] items2[i]) (fun r s' => r = e i ∧ I s') E s
theorem drop_range {N i : Nat} (h : i < N) : (List.range N).drop i = i :: (List.range N).drop (i + 1) := by simp [List.drop_eq_getElem_cons, h]
theorem eq_loopB (l b : Addr) (N : Nat) (e : Nat → Bool) (I : Shared → Prop) (hl : ListB prog w A (fun e s' => R (.error e) s') l b N e I) (k : Nat) :
    ∀ i : Nat, N - i = k → i ≤ N → ∀ s, I s → (∀ s, I s → R (.ok (.ret (.bool (((List.range N).drop i).all e)))) s) →
      wpAny (model prog w) A.in1 (Builtin.«list.__eq__.loop» ⟨[.ref l, .ref b, rawInt i, rawInt 2], []⟩) (FinOf prog w A R) (fun e s' => R (.error e) s') s := by
  induction k with
  | zero =>
    intro i hk hi s h fin
    obtain ⟨items, items2, n, n2, hl1, hb1, hs1, hs2, _⟩ := hl _ h
    have hi' : i = N := by omega
    have hR := fin s h
    rw [hi', List.drop_of_length_le (by simp)] at hR
    obtain ⟨hp, g, d, tk, os⟩ := s
    wp_walk using wpAny_loadPart' hl1, wpAny_loadPart' hb1
    have hi1 : items[((i : Nat) : Int).toNat]? = none := by simp; omega
    have hi2 : items2[((i : Nat) : Int).toNat]? = none := by simp; omega
    rw [hi1, hi2]
    wp_walk using wpAny_loadPart' hl1, wpAny_loadPart' hb1
    show R (.ok (.ret (.bool (items.size == items2.size)))) _
    rw [hs1, hs2]
    simpa using hR
  | succ k ih =>
    intro i hk hi s h fin
    obtain ⟨items, items2, n, n2, hl1, hb1, hs1, hs2, turn⟩ := hl _ h
    have hlt : i < items.size := by omega
    have hlt2 : i < items2.size := by omega
    have ht := turn i hlt hlt2
    rw [drop_range (show i < N by omega), List.all_cons] at fin
    obtain ⟨hp, g, d, tk, os⟩ := s
    wp_walk using wpAny_loadPart' hl1, wpAny_loadPart' hb1
    have hi1 : items[((i : Nat) : Int).toNat]? = some items[i] := by simp [hlt]
    have hi2 : items2[((i : Nat) : Int).toNat]? = some items2[i] := by simp [hlt2]
    have hc : ((i : Int) + 1) = ((i + 1 : Nat) : Int) := by omega
    rw [hi1, hi2]
    refine wpAny_bind (wpAny_mono ht (fun r s2 h2 => ?_) fun _ _ x => x)
    obtain ⟨hr, h2⟩ := h2
    subst hr
    cases he : e i with
    | true =>
      rw [he] at fin
      have hrec := ih (i + 1) (by omega) (by omega) s2 h2 (by simpa using fin)
      obtain ⟨hp2, g2, d2, tk2, os2⟩ := s2
      wp_walk
      rw [hc]
      exact ⟨plainId_quiet plain_eq_loop _, codeAny_builtin entry_eq_loop (by
        rw [Around.under_plainId plain_eq_loop _]
        exact hrec)⟩
    | false =>
      rw [he] at fin
      obtain ⟨items3, items4, n3, n4, hl2, hb2, hs3, hs4, _⟩ := hl _ h2
      have hR := fin _ h2
      have hj1 : items3[((i : Nat) : Int).toNat]? = some (items3[i]'(by omega)) := by simp [show i < items3.size by omega]
      have hj2 : items4[((i : Nat) : Int).toNat]? = some (items4[i]'(by omega)) := by simp [show i < items4.size by omega]
      obtain ⟨hp2, g2, d2, tk2, os2⟩ := s2
      wp_walk using wpAny_loadPart' hl2, wpAny_loadPart' hb2
      rw [hj1, hj2]
      wp_walk
      simpa using hR
theorem ne_loopB (l b : Addr) (N : Nat) (e : Nat → Bool) (I : Shared → Prop) (hl : ListB prog w A (fun e s' => R (.error e) s') l b N e I) (k : Nat) :
    ∀ i : Nat, N - i = k → i ≤ N → ∀ s, I s → (∀ s, I s → R (.ok (.ret (.bool (!((List.range N).drop i).all e)))) s) →
      wpAny (model prog w) A.in1 (Builtin.«list.__eq__.loop» ⟨[.ref l, .ref b, rawInt i, rawInt 3], []⟩) (FinOf prog w A R) (fun e s' => R (.error e) s') s := by
  induction k with
  | zero =>
    intro i hk hi s h fin
    obtain ⟨items, items2, n, n2, hl1, hb1, hs1, hs2, _⟩ := hl _ h
    have hi' : i = N := by omega
    have hR := fin s h
    rw [hi', List.drop_of_length_le (by simp)] at hR
    obtain ⟨hp, g, d, tk, os⟩ := s
    wp_walk using wpAny_loadPart' hl1, wpAny_loadPart' hb1
    have hi1 : items[((i : Nat) : Int).toNat]? = none := by simp; omega
    have hi2 : items2[((i : Nat) : Int).toNat]? = none := by simp; omega
    rw [hi1, hi2]
    wp_walk using wpAny_loadPart' hl1, wpAny_loadPart' hb1
    show R (.ok (.ret (.bool (items.size != items2.size)))) _
    rw [hs1, hs2]
    simpa using hR
  | succ k ih =>
    intro i hk hi s h fin
    obtain ⟨items, items2, n, n2, hl1, hb1, hs1, hs2, turn⟩ := hl _ h
    have hlt : i < items.size := by omega
    have hlt2 : i < items2.size := by omega
    have ht := turn i hlt hlt2
    rw [drop_range (show i < N by omega), List.all_cons] at fin
    obtain ⟨hp, g, d, tk, os⟩ := s
    wp_walk using wpAny_loadPart' hl1, wpAny_loadPart' hb1
    have hi1 : items[((i : Nat) : Int).toNat]? = some items[i] := by simp [hlt]
    have hi2 : items2[((i : Nat) : Int).toNat]? = some items2[i] := by simp [hlt2]
    have hc : ((i : Int) + 1) = ((i + 1 : Nat) : Int) := by omega
    rw [hi1, hi2]
    refine wpAny_bind (wpAny_mono ht (fun r s2 h2 => ?_) fun _ _ x => x)
    obtain ⟨hr, h2⟩ := h2
    subst hr
    cases he : e i with
    | true =>
      rw [he] at fin
      have hrec := ih (i + 1) (by omega) (by omega) s2 h2 (by simpa using fin)
      obtain ⟨hp2, g2, d2, tk2, os2⟩ := s2
      wp_walk
      rw [hc]
      exact ⟨plainId_quiet plain_eq_loop _, codeAny_builtin entry_eq_loop (by
        rw [Around.under_plainId plain_eq_loop _]
        exact hrec)⟩
    | false =>
      rw [he] at fin
      obtain ⟨items3, items4, n3, n4, hl2, hb2, hs3, hs4, _⟩ := hl _ h2
      have hR := fin _ h2
      have hj1 : items3[((i : Nat) : Int).toNat]? = some (items3[i]'(by omega)) := by simp [show i < items3.size by omega]
      have hj2 : items4[((i : Nat) : Int).toNat]? = some (items4[i]'(by omega)) := by simp [show i < items4.size by omega]
      obtain ⟨hp2, g2, d2, tk2, os2⟩ := s2
      wp_walk using wpAny_loadPart' hl2, wpAny_loadPart' hb2
      rw [hj1, hj2]
      wp_walk
      simpa using hR
theorem list_eqB (l b : Addr) (N : Nat) (e : Nat → Bool) (I : Shared → Prop) (hl : ListB prog w A (fun e s' => R (.error e) s') l b N e I)
    (fin : ∀ s, I s → R (.ok (.ret (.bool ((List.range N).all e)))) s) {s : Shared} (h : I s) :
    wpAny (model prog w) A.in1 (Builtin.«list.__eq__» ⟨[.ref l, .ref b], []⟩) (FinOf prog w A R) (fun e s' => R (.error e) s') s := by
  obtain ⟨items, items2, n, n2, hl1, hb1, hs1, hs2, _⟩ := hl _ h
  have hrec := eq_loopB (A := A) (R := R) l b N e I hl _ 0 rfl (Nat.zero_le _) s h (by simpa using fin)
  obtain ⟨hp, g, d, tk, os⟩ := s
  have f3 := AutoSeq1.sub_list_list
  have hne : ¬ (items.size != items2.size) = true := by simp [hs1, hs2]
  wp_walk using wpAny_loadPart' hl1, wpAny_loadPart' hb1
  exact ⟨plainId_quiet plain_eq_loop _, codeAny_builtin entry_eq_loop (by
    rw [Around.under_plainId plain_eq_loop _]
    exact hrec)⟩
theorem list_neB (l b : Addr) (N : Nat) (e : Nat → Bool) (I : Shared → Prop) (hl : ListB prog w A (fun e s' => R (.error e) s') l b N e I)
    (fin : ∀ s, I s → R (.ok (.ret (.bool (!(List.range N).all e)))) s) {s : Shared} (h : I s) :
    wpAny (model prog w) A.in1 (Builtin.«list.__ne__» ⟨[.ref l, .ref b], []⟩) (FinOf prog w A R) (fun e s' => R (.error e) s') s := by
  obtain ⟨items, items2, n, n2, hl1, hb1, hs1, hs2, _⟩ := hl _ h
  have hrec := ne_loopB (A := A) (R := R) l b N e I hl _ 0 rfl (Nat.zero_le _) s h (by simpa using fin)
  obtain ⟨hp, g, d, tk, os⟩ := s
  have f3 := AutoSeq1.sub_list_list
  have hne : ¬ (items.size != items2.size) = true := by simp [hs1, hs2]
  wp_walk using wpAny_loadPart' hl1, wpAny_loadPart' hb1
  exact ⟨plainId_quiet plain_eq_loop _, codeAny_builtin entry_eq_loop (by
    rw [Around.under_plainId plain_eq_loop _]
    exact hrec)⟩
theorem tuple_eqB (l b : Addr) (items items2 : Array Value) (n n2 : Nat) (dd dd2 : Option Addr) (sl sl2 : Array (Option Value)) (e : Nat → Bool) (I : Shared → Prop)
    (turn : ∀ i (h1 : i < items.size) (h2 : i < items2.size) s, I s → wpAny (model prog w) A.in1 (eqBool items[i] items2[i]) (fun r s' => r = e i ∧ I s') (fun e s' => R (.error e) s') s)
    (fin : ∀ s, I s → R (.ok (.ret (.bool ((List.range (min items.size items2.size)).all e && items.size == items2.size)))) s) {s : Shared} (hl1 : s.heap.get? l = some { cls := .type "tuple", dict := dd, data := .seq items n, slots := sl }) (hb1 : s.heap.get? b = some { cls := .type "tuple", dict := dd2, data := .seq items2 n2, slots := sl2 }) (h : I s) :
    wpAny (model prog w) A.in1 (Builtin.«tuple.__eq__» ⟨[.ref l, .ref b], []⟩) (FinOf prog w A R) (fun e s' => R (.error e) s') s := by
  have f2 := AutoSeq1.sub_tuple_tuple
  have hZ : (items.toList.zip items2.toList).length = min items.size items2.size := by simp
  have h0 := h
  obtain ⟨hp, g, d, tk, os⟩ := s
  wp_walk using wpAny_loadPart' hl1, wpAny_loadPart' hb1, wpAny_forIn_list _ (fun rest b s' => b.1 = none ∧ I s' ∧ ∃ i, rest = (items.toList.zip items2.toList).drop i ∧
    ∀ s, I s → R (.ok (.ret (.bool (((List.range (min items.size items2.size)).drop i).all e && items.size == items2.size)))) s) _
  case turn =>
    rintro ⟨y, x⟩ rest b s' ⟨hb', hI, i, hz, hR⟩
    have hlt : i < (items.toList.zip items2.toList).length := by
      rcases Nat.lt_or_ge i (items.toList.zip items2.toList).length with h' | h'
      · exact h'
      · rw [List.drop_of_length_le h'] at hz; cases hz
    have hm : i < min items.size items2.size := hZ ▸ hlt
    have h1 : i < items.size := Nat.lt_of_lt_of_le hm (Nat.min_le_left _ _)
    have h2 : i < items2.size := Nat.lt_of_lt_of_le hm (Nat.min_le_right _ _)
    rw [List.drop_eq_getElem_cons hlt] at hz
    injection hz with hyx hrest
    have hy : y = items[i] := by have := congrArg Prod.fst hyx; simpa using this
    have hx : x = items2[i] := by have := congrArg Prod.snd hyx; simpa using this
    subst hy hx
    rw [drop_range hm, List.all_cons] at hR
    refine wpAny_bind (wpAny_mono (turn i h1 h2 s' hI) (fun r s2 q2 => ?_) fun _ _ x => x)
    obtain ⟨hr, q2⟩ := q2
    subst hr
    cases he : e i with
    | true =>
      rw [he] at hR
      wp_walk
      exact ⟨rfl, q2, i + 1, hrest, by simpa using hR⟩
    | false =>
      rw [he] at hR
      have := hR _ q2
      wp_walk
      simpa using this
  case fin =>
    rintro ⟨b1, b2⟩ s' ⟨hb', hI, i, hz, hR⟩
    simp only at hb'
    subst hb'
    have hge : min items.size items2.size ≤ i := by
      rcases Nat.lt_or_ge i (items.toList.zip items2.toList).length with h' | h'
      · rw [List.drop_eq_getElem_cons h'] at hz; cases hz
      · exact hZ ▸ h'
    rw [List.drop_of_length_le (by simpa using hge)] at hR
    have := hR _ hI
    wp_walk
    simpa [Builtin.Tuple.tupleCompareSizes] using this
  case h =>
    exact ⟨rfl, h0, 0, rfl, by simpa using fin⟩
theorem tuple_neB (l b : Addr) (items items2 : Array Value) (n n2 : Nat) (dd dd2 : Option Addr) (sl sl2 : Array (Option Value)) (e : Nat → Bool) (I : Shared → Prop)
    (turn : ∀ i (h1 : i < items.size) (h2 : i < items2.size) s, I s → wpAny (model prog w) A.in1 (eqBool items[i] items2[i]) (fun r s' => r = e i ∧ I s') (fun e s' => R (.error e) s') s)
    (fin : ∀ s, I s → R (.ok (.ret (.bool (!((List.range (min items.size items2.size)).all e && items.size == items2.size))))) s) {s : Shared} (hl1 : s.heap.get? l = some { cls := .type "tuple", dict := dd, data := .seq items n, slots := sl }) (hb1 : s.heap.get? b = some { cls := .type "tuple", dict := dd2, data := .seq items2 n2, slots := sl2 }) (h : I s) :
    wpAny (model prog w) A.in1 (Builtin.«tuple.__ne__» ⟨[.ref l, .ref b], []⟩) (FinOf prog w A R) (fun e s' => R (.error e) s') s := by
  have f2 := AutoSeq1.sub_tuple_tuple
  have hZ : (items.toList.zip items2.toList).length = min items.size items2.size := by simp
  have h0 := h
  obtain ⟨hp, g, d, tk, os⟩ := s
  wp_walk using wpAny_loadPart' hl1, wpAny_loadPart' hb1, wpAny_forIn_list _ (fun rest b s' => b.1 = none ∧ I s' ∧ ∃ i, rest = (items.toList.zip items2.toList).drop i ∧
    ∀ s, I s → R (.ok (.ret (.bool (!(((List.range (min items.size items2.size)).drop i).all e && items.size == items2.size))))) s) _
  case turn =>
    rintro ⟨y, x⟩ rest b s' ⟨hb', hI, i, hz, hR⟩
    have hlt : i < (items.toList.zip items2.toList).length := by
      rcases Nat.lt_or_ge i (items.toList.zip items2.toList).length with h' | h'
      · exact h'
      · rw [List.drop_of_length_le h'] at hz; cases hz
    have hm : i < min items.size items2.size := hZ ▸ hlt
    have h1 : i < items.size := Nat.lt_of_lt_of_le hm (Nat.min_le_left _ _)
    have h2 : i < items2.size := Nat.lt_of_lt_of_le hm (Nat.min_le_right _ _)
    rw [List.drop_eq_getElem_cons hlt] at hz
    injection hz with hyx hrest
    have hy : y = items[i] := by have := congrArg Prod.fst hyx; simpa using this
    have hx : x = items2[i] := by have := congrArg Prod.snd hyx; simpa using this
    subst hy hx
    rw [drop_range hm, List.all_cons] at hR
    refine wpAny_bind (wpAny_mono (turn i h1 h2 s' hI) (fun r s2 q2 => ?_) fun _ _ x => x)
    obtain ⟨hr, q2⟩ := q2
    subst hr
    cases he : e i with
    | true =>
      rw [he] at hR
      wp_walk
      exact ⟨rfl, q2, i + 1, hrest, by simpa using hR⟩
    | false =>
      rw [he] at hR
      have := hR _ q2
      wp_walk
      simpa using this
  case fin =>
    rintro ⟨b1, b2⟩ s' ⟨hb', hI, i, hz, hR⟩
    simp only at hb'
    subst hb'
    have hge : min items.size items2.size ≤ i := by
      rcases Nat.lt_or_ge i (items.toList.zip items2.toList).length with h' | h'
      · rw [List.drop_eq_getElem_cons h'] at hz; cases hz
      · exact hZ ▸ h'
    rw [List.drop_of_length_le (by simpa using hge)] at hR
    have := hR _ hI
    wp_walk
    simpa [Builtin.Tuple.tupleCompareSizes, bne] using this
  case h =>
    exact ⟨rfl, h0, 0, rfl, by simpa using fin⟩
end
end GB

/-! == and != of own instances, of lists and tuples of such: judgements with both answers. -/
namespace GB
open PySem PySem.W
section
variable {prog : Program} {w : World} {A : Around} {E : Value → Shared → Prop} {s : Shared} {K : Frag} {x C f : Addr} {ox : Obj} {od : Option Obj} {b tb : Value}
/-- one side's __eq__ -/
theorem tc_eq {Q : Option Value → Shared → Prop} (X : K.In s.heap) (I : InstAt s.heap x ox C od) (hs : findIn K (.ref C) "__eq__" = some (some (.ref f))) (hf : isFn K (.ref f) = true)
    (h : wpAny (model prog w) A (call (.ref f) [.ref x, b]) (fun v s' => ∃ k, v = .bool k ∧ Q (some (.bool k)) s') E s) : wpAny (model prog w) A (tryCompare (.ref x) "__eq__" b) Q E s := by
  unfold tryCompare
  refine wpAny_bind (ifBound_K X I hs hf (wpAny_mono h (fun v s' hv => ?_) fun _ _ e => e))
  obtain ⟨k, rfl, q⟩ := hv
  exact wpAny_pure q
theorem ifBound_ne {Q : Option Value → Shared → Prop} (X : K.In s.heap) (I : InstAt s.heap x ox C od) (hs : findIn K (.ref C) "__ne__" = some (some (.builtin "object.__ne__")))
    (h : wpAny (model prog w) A (call (.builtin "object.__ne__") [.ref x, b]) (fun v => Q (some v)) E s) : wpAny (model prog w) A (callSpecialIfBound? (.ref x) "__ne__" [b]) Q E s := by
  simp only [callSpecialIfBound?, bindSpecialIfBound?]
  refine wpAny_holding (wpAny_bind (wpAny_bind (wpAny_bind (I.type.here ((looks_findIn X hs).here ?_)))))
  simp only [F.cmp_object.ne.bind]
  refine wpAny_bind (wpAny_askSetting (wpAny_ite ?_))
  have fin : wpAny (model prog w) A (call (.builtin "object.__ne__") ([.ref x] ++ [b]) >>= fun v => pure (some v)) Q E s := wpAny_bind (wpAny_mono h (fun v s' h' => wpAny_pure h') fun _ _ h' => h')
  split
  · exact wpAny_bind (wpAny_pure (wpAny_pure fin))
  · exact wpAny_tryCatch (wpAny_bind (wpAny_pure (wpAny_pure fin)))
theorem objNe_own {Q : Fin → Shared → Prop} (X : K.In s.heap) (I : InstAt s.heap x ox C od) (hs : findIn K (.ref C) "__eq__" = some (some (.ref f))) (hf : isFn K (.ref f) = true) (hu : A.units < cLine)
    (h : wpAny (model prog w) A (call (.ref f) [.ref x, b]) (fun v s' => ∃ k, v = .bool k ∧ Q (.done (.ret (.bool (!k)))) s') E s) :
    wpAny (model prog w) A (Builtin.«object.__ne__» ⟨[.ref x, b], []⟩) Q E s := by
  unfold Builtin.«object.__ne__»
  repeat (first
    | with_reducible refine wpAny_cRoomFor hu ?_
    | (refine wpAny_bind (m := callSpecialIfBound? (.ref x) (Str.ofString "__eq__") [b])
        (ifBound_K X I hs hf (wpAny_mono h (fun r s' hr => by
          obtain ⟨b, rfl, hq⟩ := hr
          repeat (first | exact hq | exact wpAny_pure hq | exact wpAny_truthy_bool hq | (refine wpAny_bind (m := truthy (.bool _)) (wpAny_truthy_bool ?_)) | wp_step)) fun _ _ e => e)))
    | wp_step)
/-- one side's __ne__, object's own, by __eq__ -/
theorem tc_ne {Q : Option Value → Shared → Prop} (X : K.In s.heap) (I : InstAt s.heap x ox C od) (hs : findIn K (.ref C) "__eq__" = some (some (.ref f))) (hf : isFn K (.ref f) = true)
    (hn : findIn K (.ref C) "__ne__" = some (some (.builtin "object.__ne__"))) (hm : mroIn K C (.type "object") = some true) (hu : A.in1.units < cLine)
    (h : wpAny (model prog w) A.in1 (call (.ref f) [.ref x, b]) (fun v s' => ∃ k, v = .bool k ∧ Q (some (.bool (!k))) s') E s) : wpAny (model prog w) A (tryCompare (.ref x) "__ne__" b) Q E s := by
  unfold tryCompare
  have sub : Looks (model prog w) s.heap (isInstance (.ref x) (.type "object")) true := I.type.andThen (looks_mroIn X hm)
  refine wpAny_bind (ifBound_ne X I hn (wpAny_call (codeAny_call_builtin F.cmp_object.ne.plain F.cmpEntry_ne (check_slot F.cmpKind_ne F.cmpSplit_ne sub (F.cmpArgs_ne _ _) ?_))))
  refine objNe_own (A := A.in1) X I hs hf hu (wpAny_mono h (fun v s' hv => ?_) fun _ _ e => e)
  obtain ⟨k, rfl, q⟩ := hv
  first | exact ⟨k, rfl, wpAny_pure q⟩ | exact ⟨k, rfl, wpAny_pure (wpAny_pure q)⟩ | exact ⟨k, rfl, q⟩
/-- the left side is asked first -/
theorem rc_left {op : CmpOp} {Q : Value → Shared → Prop} (hu : A.units < cLine) (X : K.In s.heap) (I : InstAt s.heap x ox C od) (hb : Looks (model prog w) s.heap (typeOf b) tb) (hn : notFirst K C tb = true)
    (one : wpAny (model prog w) A (tryCompare (.ref x) (cmpInfo op).2.1 b) (fun r s' => ∃ v, r = some v ∧ Q v s') E s) : wpAny (model prog w) A (richCompare op (.ref x) b) Q E s := by
  unfold richCompare
  simp only [oneThing_ref]
  refine wpAny_holding (wpAny_bind (wpAny_cRoomFor hu ?_))
  refine wpAny_bind (I.type.here (wpAny_bind (hb.here ?_)))
  split
  · rename_i q
    have e : subIn K tb (.ref C) = some false := by
      rcases Bool.or_eq_true_iff.mp hn with e | e
      · rw [beq_iff_eq.mp e] at q; simp at q
      · exact beq_iff_eq.mp e
    refine wpAny_bind ((looks_subIn X e).here ?_)
    simp only [Bool.false_eq_true, if_false]
    refine wpAny_bind (wpAny_mono one (fun r s' z => ?_) fun _ _ e => e)
    obtain ⟨v, rfl, hq⟩ := z
    exact wpAny_pure hq
  · refine wpAny_bind (wpAny_pure ?_)
    simp only [Bool.false_eq_true, if_false]
    refine wpAny_bind (wpAny_mono one (fun r s' z => ?_) fun _ _ e => e)
    obtain ⟨v, rfl, hq⟩ := z
    exact wpAny_pure hq
/-- the right side's class is below the left one's: it is asked first -/
theorem rc_right {op : CmpOp} {Q : Value → Shared → Prop} {y D : Addr} {oy : Obj} {ody : Option Obj} (hu : A.units < cLine) (X : K.In s.heap) (I : InstAt s.heap x ox C od) (J : InstAt s.heap y oy D ody) (hne : D ≠ C) (hsub : mroIn K D (.ref C) = some true)
    (one : wpAny (model prog w) A (tryCompare (.ref y) (cmpInfo op).2.2 (.ref x)) (fun r s' => ∃ v, r = some v ∧ Q v s') E s) : wpAny (model prog w) A (richCompare op (.ref x) (.ref y)) Q E s := by
  unfold richCompare
  simp only [oneThing_ref]
  refine wpAny_holding (wpAny_bind (wpAny_cRoomFor hu ?_))
  refine wpAny_bind (I.type.here (wpAny_bind (J.type.here ?_)))
  have e : (Value.ref C != Value.ref D) = true := by simp [Ne.symm hne]
  rw [if_pos e]
  refine wpAny_bind ((looks_subIn (t := .ref D) X hsub).here ?_)
  simp only [if_true]
  refine wpAny_bind (wpAny_mono one (fun r s' z => ?_) fun _ _ e => e)
  obtain ⟨v, rfl, hq⟩ := z
  repeat (first | exact hq | exact wpAny_pure hq | wp_step)
end
end GB

namespace L2
open PySem PySem.Spec PyProof.Rows
/-- how two values are seen to be equal or not, by the abstract heap -/
abbrev EqvB := V → V → Hp → Bool → Prop
def MonB (D : EqvB) : Prop := ∀ x y H H' b, Ext H H' → D x y H b → D x y H' b
def EqB (X : Cx) (n : Nat) (D : EqvB) : Prop :=
  ∀ (A : Around) (pins : List (Addr × Obj)) (s : Shared) (σ : St) (H : Hp) (x y : V) (u v : Value) (b : Bool), Sub X n A → Inv X pins σ H s → RelV x u → RelV y v → D x y H b →
    wpAny (model X.prog X.w) A (eqBool u v) (fun r s' => r = b ∧ ∃ H', Inv X pins σ H' s' ∧ Ext H H') X.xe s
/-- ne = false: ==; ne = true: != -/
def opOf (ne : Bool) : CmpOp := if ne then .NotEq else .Eq
def RcB (X : Cx) (n : Nat) (ne : Bool) (D : EqvB) : Prop :=
  ∀ (A : Around) (pins : List (Addr × Obj)) (s : Shared) (σ : St) (H : Hp) (x y : V) (u v : Value) (b : Bool), Sub X n A → Inv X pins σ H s → RelV x u → RelV y v → D x y H b →
    wpAny (model X.prog X.w) A (richCompare (opOf ne) u v) (fun r s' => r = .bool (ne != b) ∧ ∃ H', Inv X pins σ H' s' ∧ Ext H H') X.xe s
section
variable {X : Cx} {n m : Nat} {ne : Bool} {D D' : EqvB}
theorem EqB.mono (h : EqB X n D) (hn : n ≤ m) : EqB X m D := fun A pins s σ H x y u v b sb => h A pins s σ H x y u v b (sb.mono hn)
theorem RcB.mono (h : RcB X n ne D) (hn : n ≤ m) : RcB X m ne D := fun A pins s σ H x y u v b sb => h A pins s σ H x y u v b (sb.mono hn)
theorem EqB.or (h : EqB X n D) (h' : EqB X n D') : EqB X n (fun x y H b => D x y H b ∨ D' x y H b) := fun A pins s σ H x y u v b sb I rx ry d => by
  rcases d with d | d
  · exact h A pins s σ H x y u v b sb I rx ry d
  · exact h' A pins s σ H x y u v b sb I rx ry d
theorem RcB.or (h : RcB X n ne D) (h' : RcB X n ne D') : RcB X n ne (fun x y H b => D x y H b ∨ D' x y H b) := fun A pins s σ H x y u v b sb I rx ry d => by
  rcases d with d | d
  · exact h A pins s σ H x y u v b sb I rx ry d
  · exact h' A pins s σ H x y u v b sb I rx ry d
theorem RcB.imp (h : RcB X n ne D) (hd : ∀ x y H b, D' x y H b → D x y H b) : RcB X n ne D' := fun A pins s σ H x y u v b sb I rx ry d => h A pins s σ H x y u v b sb I rx ry (hd x y H b d)
theorem MonB.or (h : MonB D) (h' : MonB D') : MonB (fun x y H b => D x y H b ∨ D' x y H b) := fun x y H H' b e d => d.elim (fun d => .inl (h x y H H' b e d)) fun d => .inr (h' x y H H' b e d)
/-- flat values -/
def DFl : EqvB := fun x y _ b => flatV x = true ∧ flatV y = true ∧ b = eqV x y
theorem monB_flat : MonB DFl := fun _ _ _ _ _ _ d => d
theorem eqB_flat : EqB X 0 DFl := by
  intro A pins s σ H x y u v b sb I rx ry d
  obtain ⟨fx, fy, rfl⟩ := d
  exact eqAt_V (A := A) (s := s) rx ry fx fy X.prog X.w X.xe _ ⟨rfl, H, I, Ext.rfl'⟩
/-- item by item, as e says -/
def PrsB (D : EqvB) (xs ys : List V) (H : Hp) (e : Nat → Bool) : Prop := ∀ (i : Nat) x y, xs[i]? = some x → ys[i]? = some y → D x y H (e i)
theorem PrsB.mon (hD : MonB D) {xs ys : List V} {H H' : Hp} {e : Nat → Bool} (x : Ext H H') (p : PrsB D xs ys H e) : PrsB D xs ys H' e := fun i a b h1 h2 => hD a b H H' _ x (p i a b h1 h2)
theorem turnB (hD : MonB D) (h : EqB X n D) {A : Around} (sb : Sub X (n + 1) A) {pins : List (Addr × Obj)} {σ : St} {H : Hp} {xs ys : List V} {e : Nat → Bool} {its its2 : List Value} (p : PrsB D xs ys H e) (r : Vals xs its) (r2 : Vals ys its2)
    (i : Nat) (h1 : i < its.toArray.size) (h2 : i < its2.toArray.size) (s' : Shared) (l : LoopI X pins σ H s') :
    wpAny (model X.prog X.w) A.in1 (eqBool its.toArray[i] its2.toArray[i]) (fun r s2 => r = e i ∧ LoopI X pins σ H s2) X.xe s' := by
  obtain ⟨H1, I1, e1⟩ := l
  have g1 : its[i]? = some its.toArray[i] := by
    have h1' : i < its.length := by simpa using h1
    rw [List.getElem?_eq_getElem h1'] <;> simp
  have g2 : its2[i]? = some its2.toArray[i] := by
    have h2' : i < its2.length := by simpa using h2
    rw [List.getElem?_eq_getElem h2'] <;> simp
  have k1 : i < xs.length := by rw [r.length]; simpa using h1
  have k2 : i < ys.length := by rw [r2.length]; simpa using h2
  obtain ⟨u, hu, ru⟩ := r.get (List.getElem?_eq_getElem k1)
  obtain ⟨v, hv, rv⟩ := r2.get (List.getElem?_eq_getElem k2)
  rw [g1] at hu
  rw [g2] at hv
  rw [Option.some.inj hu, Option.some.inj hv]
  refine wpAny_mono (h A.in1 pins s' σ H1 _ _ u v _ sb.in1 I1 ru rv (hD _ _ _ _ _ e1 (p i _ _ (List.getElem?_eq_getElem k1) (List.getElem?_eq_getElem k2)))) (fun r s2 q => ?_) fun _ _ x => x
  obtain ⟨hr, H2, I2, e2⟩ := q
  exact ⟨hr, H2, I2, e1.trans e2⟩
/-- two lists of one length; two tuples -/
def DLs (D : EqvB) : EqvB := fun x y H b => ∃ a c xs ys e, x = .ref a ∧ y = .ref c ∧ H a = some (.lst xs) ∧ H c = some (.lst ys) ∧ xs.length = ys.length ∧ PrsB D xs ys H e ∧ b = (List.range xs.length).all e
def DTp (K : PySem.W.Frag) (D : EqvB) : EqvB := fun x y H b => ∃ a c xs ys e, x = .ref a ∧ y = .ref c ∧ SqT K H a xs ∧ SqT K H c ys ∧ PrsB D xs ys H e ∧ b = ((List.range (min xs.length ys.length)).all e && xs.length == ys.length)
theorem monB_list (hD : MonB D) : MonB (DLs D) := fun x y H H' b ex d => by
  obtain ⟨a, c, xs, ys, e, hx, hy, h1, h2, hl, p, hb⟩ := d
  exact ⟨a, c, xs, ys, e, hx, hy, ex _ _ h1, ex _ _ h2, hl, p.mon hD ex, hb⟩
theorem monB_tup {K : PySem.W.Frag} (hD : MonB D) : MonB (DTp K D) := fun x y H H' b ex d => by
  obtain ⟨a, c, xs, ys, e, hx, hy, h1, h2, p, hb⟩ := d
  exact ⟨a, c, xs, ys, e, hx, hy, h1.ext ex, h2.ext ex, p.mon hD ex, hb⟩
theorem rcB_list (hD : MonB D) (h : EqB X n D) : RcB X (n + 1) ne (DLs D) := by
  intro A pins s σ H x y u v b sb I rx ry d
  obtain ⟨a, c, xs, ys, e, rfl, rfl, ha, hb, hl, p, rfl⟩ := d
  cases rx
  cases ry
  have hL : GB.ListB X.prog X.w A X.xe a c xs.length e (LoopI X pins σ H) := fun s' q => by
    obtain ⟨H1, I1, e1⟩ := id q
    obtain ⟨z, its, k, r, g⟩ := I1.hok a _ (e1 _ _ ha)
    obtain ⟨z2, its2, k2, r2, g2⟩ := I1.hok c _ (e1 _ _ hb)
    exact ⟨its.toArray, its2.toArray, k, k2, g, g2, by rw [List.size_toArray, ← r.length], by rw [List.size_toArray, ← r2.length, ← hl], fun i h1 h2 => turnB hD h sb p r r2 i h1 h2 s' q⟩
  obtain ⟨items, items2, n1, n2, hl1, hb1, _, _, _⟩ := hL s ⟨H, I, Ext.rfl'⟩
  cases ne with
  | false =>
    refine wpAny_richCompare_same_room (op := .Eq) ⟨_, hl1, rfl⟩ ⟨_, hb1, rfl⟩ F.slot_list_eq (GQ.call_here F.slot_list_eq ⟨_, hl1, rfl⟩ F.entry_list_eq (F.args_list_eq_2 _ _) ?_) sb.room.units0
    refine GB.list_eqB (R := wants (fun v s' => v ≠ .notImplemented ∧ v = .bool (false != (List.range xs.length).all e) ∧ ∃ H', Inv X pins σ H' s' ∧ Ext H H') X.xe) a c xs.length e (LoopI X pins σ H) hL (fun s' q => ⟨(fun z => nomatch z), by simp, q⟩) ⟨H, I, Ext.rfl'⟩
  | true =>
    refine wpAny_richCompare_same_room (op := .NotEq) ⟨_, hl1, rfl⟩ ⟨_, hb1, rfl⟩ F.slot_list_ne (GQ.call_here F.slot_list_ne ⟨_, hl1, rfl⟩ F.entry_list_ne (F.args_list_ne_2 _ _) ?_) sb.room.units0
    refine GB.list_neB (R := wants (fun v s' => v ≠ .notImplemented ∧ v = .bool (true != (List.range xs.length).all e) ∧ ∃ H', Inv X pins σ H' s' ∧ Ext H H') X.xe) a c xs.length e (LoopI X pins σ H) hL (fun s' q => ⟨(fun z => nomatch z), by cases (List.range xs.length).all e <;> rfl, q⟩) ⟨H, I, Ext.rfl'⟩
theorem rcB_tup (hD : MonB D) (h : EqB X n D) : RcB X (n + 1) ne (DTp X.K D) := by
  intro A pins s σ H x y u v b sb I rx ry d
  obtain ⟨a, c, xs, ys, e, rfl, rfl, ha, hb, p, rfl⟩ := d
  cases rx
  cases ry
  obtain ⟨its, r, g, z⟩ := I.tuple ha
  obtain ⟨its2, r2, g2, z2⟩ := I.tuple hb
  obtain ⟨⟨cls, dd, data, sl⟩, ho, hc, k, hd⟩ := id g
  obtain ⟨⟨cls2, dd2, data2, sl2⟩, ho2, hc2, k2, hd2⟩ := id g2
  simp only at hc hd hc2 hd2
  subst hc hd hc2 hd2
  have s1 : its.toArray.size = xs.length := by rw [List.size_toArray, ← r.length]
  have s2 : its2.toArray.size = ys.length := by rw [List.size_toArray, ← r2.length]
  cases ne with
  | false =>
    refine wpAny_richCompare_same_room (op := .Eq) ⟨_, ho, rfl⟩ ⟨_, ho2, rfl⟩ F.slot_tuple_eq (GQ.call_here F.slot_tuple_eq ⟨_, ho, rfl⟩ F.entry_tuple_eq (F.args_tuple_eq_2 _ _) ?_) sb.room.units0
    refine GB.tuple_eqB (R := wants (fun v s' => v ≠ .notImplemented ∧ v = .bool (false != ((List.range (min xs.length ys.length)).all e && xs.length == ys.length)) ∧ ∃ H', Inv X pins σ H' s' ∧ Ext H H') X.xe) a c its.toArray its2.toArray k k2 dd dd2 sl sl2 e (LoopI X pins σ H)
      (fun i h1 h2 s' q => turnB hD h sb p r r2 i h1 h2 s' q) (fun s' q => ⟨(fun z => nomatch z), by rw [s1, s2]; simp, q⟩) ho ho2 ⟨H, I, Ext.rfl'⟩
  | true =>
    refine wpAny_richCompare_same_room (op := .NotEq) ⟨_, ho, rfl⟩ ⟨_, ho2, rfl⟩ F.slot_tuple_ne (GQ.call_here F.slot_tuple_ne ⟨_, ho, rfl⟩ F.entry_tuple_ne (F.args_tuple_ne_2 _ _) ?_) sb.room.units0
    refine GB.tuple_neB (R := wants (fun v s' => v ≠ .notImplemented ∧ v = .bool (true != ((List.range (min xs.length ys.length)).all e && xs.length == ys.length)) ∧ ∃ H', Inv X pins σ H' s' ∧ Ext H H') X.xe) a c its.toArray its2.toArray k k2 dd dd2 sl sl2 e (LoopI X pins σ H)
      (fun i h1 h2 s' q => turnB hD h sb p r r2 i h1 h2 s' q) (fun s' q => ⟨(fun z => nomatch z), by rw [s1, s2]; cases ((List.range (min xs.length ys.length)).all e && xs.length == ys.length) <;> rfl, q⟩) ho ho2 ⟨H, I, Ext.rfl'⟩

/-- the type of the other side -/
inductive TyY (H : Hp) : V → Value → Prop where
  | non : TyY H .non (.type "NoneType")
  | bl (x : Bool) : TyY H (.bl x) (.type "bool")
  | int (i : Int) : TyY H (.int i) (.type "int")
  | str (x : Str) : TyY H (.str x) (.type "str")
  | tup {a : Addr} {xs : List V} (e : H a = some (.tup xs)) : TyY H (.ref a) (.type "tuple")
  | lst {a : Addr} {xs : List V} (e : H a = some (.lst xs)) : TyY H (.ref a) (.type "list")
  | dK {a : Addr} {kvs : List (Key × V)} (e : H a = some (.dK kvs)) : TyY H (.ref a) (.type "dict")
  | ins {a C dx : Addr} {fs : List (Str × V)} (e : H a = some (.ins C dx fs)) : TyY H (.ref a) (.ref C)
theorem TyY.mon {H H' : Hp} {y : V} {t : Value} (e : Ext H H') (h : TyY H y t) : TyY H' y t := by
  cases h with
  | non => exact .non
  | bl x => exact .bl x
  | int i => exact .int i
  | str x => exact .str x
  | tup h => exact .tup (e _ _ h)
  | lst h => exact .lst (e _ _ h)
  | dK h => exact .dK (e _ _ h)
  | ins h => exact .ins (e _ _ h)
theorem typeOf_at {M : Model} {h : Heap} {a : Addr} {o : Obj} (e : h.get? a = some o) : PySem.W.Looks M h (typeOf (.ref a)) o.cls := (PySem.W.Looks.ld (part := none) e).andThen .now
theorem TyY.looks {pins : List (Addr × Obj)} {σ : St} {H : Hp} {s : Shared} {M : Model} {y : V} {v t : Value} (I : Inv X pins σ H s) (ry : RelV y v) (h : TyY H y t) : PySem.W.Looks M s.heap (typeOf v) t := by
  cases h with
  | non => cases ry; exact PySem.W.Looks.of_pure rfl
  | bl x => cases ry; exact PySem.W.Looks.of_pure rfl
  | int i => obtain ⟨t, rfl⟩ := ry; exact PySem.W.Looks.of_pure rfl
  | str x => obtain ⟨t, rfl⟩ := ry; exact PySem.W.Looks.of_pure rfl
  | @tup a xs e =>
    cases ry
    obtain ⟨_, _, _, o, h1, h2, _⟩ := (show ObjOk X.prog X.w H s.heap a (.tup xs) from I.hok a _ e)
    rw [← h2]
    exact typeOf_at h1
  | @lst a xs e =>
    cases ry
    obtain ⟨_, _, _, _, h1⟩ := (show ObjOk X.prog X.w H s.heap a (.lst xs) from I.hok a _ e)
    exact typeOf_at h1
  | @dK a kvs e =>
    cases ry
    obtain ⟨_, _, vs, _, o, es, ep, h1, h2, _⟩ := (show ObjOk X.prog X.w H s.heap a (.dK kvs) from I.hok a _ e)
    have := h2.1
    rw [← this]
    exact typeOf_at h1
  | @ins a C dx fs e =>
    cases ry
    obtain ⟨mA, O, _⟩ := ins_get I.hok e
    obtain ⟨od, J, _⟩ := O.look
    exact J.type
/-- an own class with __eq__ at f, != left to object -/
structure OwnE (K : PySem.W.Frag) (C f : Addr) : Prop where
  eq : PySem.W.findIn K (.ref C) "__eq__" = some (some (.ref f))
  ne : PySem.W.findIn K (.ref C) "__ne__" = some (some (.builtin "object.__ne__"))
  ob : PySem.W.mroIn K C (.type "object") = some true
/-- what the own == promises: it only makes objects -/
def spEqB (R : EqvB) : Sp := fun vs H Q _ => ∃ x y b, vs = [x, y] ∧ R x y H b ∧ ∀ H', Ext H H' → Q (.bl b) H'
/-- instances by an own __eq__ at f: the left one is asked, or the right one, if its class is below -/
def DOw (K : PySem.W.Frag) (f : Addr) (R : EqvB) : EqvB := fun x y H b => ∃ a C dx fs, x = .ref a ∧ H a = some (.ins C dx fs) ∧
  ((∃ t, TyY H y t ∧ OwnE K C f ∧ PySem.W.notFirst K C t = true ∧ R x y H b) ∨
   (∃ c D dy gs, y = .ref c ∧ H c = some (.ins D dy gs) ∧ D ≠ C ∧ PySem.W.mroIn K D (.ref C) = some true ∧ OwnE K D f ∧ R y x H b))
theorem monB_own {K : PySem.W.Frag} {f : Addr} {R : EqvB} (hR : MonB R) : MonB (DOw K f R) := fun x y H H' b ex d => by
  obtain ⟨a, C, dx, fs, hx, h1, d⟩ := d
  refine ⟨a, C, dx, fs, hx, ex _ _ h1, ?_⟩
  rcases d with ⟨t, ty, o, nf, r⟩ | ⟨c, D, dy, gs, hy, h2, ne, sb, o, r⟩
  · exact .inl ⟨t, ty.mon ex, o, nf, hR _ _ _ _ _ ex r⟩
  · exact .inr ⟨c, D, dy, gs, hy, ex _ _ h2, ne, sb, o, hR _ _ _ _ _ ex r⟩
theorem in1_units {A : Around} (h : A.units + 64 < cLine) : A.in1.units < cLine := by
  have e : A.in1.units = A.units + 1 := rfl
  omega
theorem rcB_own {CX : CXT} {f : Addr} {fd : FuncData} {ps : List Str} {R : EqvB} {E : XK} (F : FnOk X.prog X.w X.K X.mg X.base CX n f fd ps (spEqB R)) (hf : PySem.W.isFn X.K (.ref f) = true) (hb : Binds X.K fd ps []) (hx : Passes CX X E) : RcB X (n + 1) ne (DOw X.K f R) := by
  intro A pins s σ H x y u v b sb I rx ry d
  obtain ⟨a, C, dx, fs, rfl, ha, d⟩ := d
  cases rx
  obtain ⟨mA, O, _⟩ := ins_get I.hok ha
  obtain ⟨od, J, _⟩ := O.look
  have KX := I.kIn
  -- the call of f upon two values
  have call : ∀ (A' : Around) (p q : V) (u' v' : Value) (P : Value → Shared → Prop), Sub X n A' → RelV p u' → RelV q v' → R p q H b → (∀ s' H', Inv X pins σ H' s' → Ext H H' → P (.bool b) s') →
      wpAny (model X.prog X.w) A' (call (.ref f) [u', v']) P X.xe s := by
    intro A' p q u' v' P sb' rp rq hr hP
    have hsp : spEqB R [p, q] H (fun v H' => v = .bl b ∧ Ext H H') E := ⟨p, q, b, rfl, hr, fun H' e => ⟨rfl, e⟩⟩
    have e0 : Env0 X.prog X.w X.K X.mg X.base A' X.stack s H := by
      have e := I.env0
      exact ⟨by rw [sb'.fr]; exact e.frames, e.mod, e.bs, e.bsz, e.funs, e.frf, e.hok, e.bare⟩
    have hl := F.len _ _ _ _ hsp
    have r2 : Vals [p, q] [u', v'] := .cons rp (.cons rq .nil)
    refine wpAny_call (codeAny_mono (F.run A' X.stack s H ⟨[u', v'], []⟩ [u', v'] [p, q] _ E sb'.room e0 (by
      have := hb s [u', v'] I.kIn (by simpa using hl)
      simpa using this) r2 hsp) fun r s' hq => ?_)
    cases r with
    | error e => exact hx pins σ H s e s' I hq
    | ok fl =>
      cases fl with
      | ret w =>
        obtain ⟨z, H', I', rz, ez, ex⟩ := I.after hq
        subst ez
        cases rz
        exact hP s' H' I' ex
      | next => exact False.elim hq
      | brk => exact False.elim hq
      | cont => exact False.elim hq
  rcases d with ⟨t, ty, o, nf, hr⟩ | ⟨c, D, dy, gs, rfl, hc, hne, hsub, o, hr⟩
  · refine GB.rc_left (op := opOf ne) sb.room.units0 KX J (ty.looks I ry) nf ?_
    cases ne with
    | false => exact GB.tc_eq KX J o.eq hf (call A (.ref a) y _ _ _ (sb.mono (Nat.le_succ n)) rfl ry hr fun s' H' I' ex => ⟨b, rfl, _, rfl, by simp, H', I', ex⟩)
    | true => exact GB.tc_ne KX J o.eq hf o.ne o.ob (in1_units sb.room.units) (call A.in1 (.ref a) y _ _ _ sb.in1 rfl ry hr fun s' H' I' ex => ⟨b, rfl, _, rfl, by cases b <;> rfl, H', I', ex⟩)
  · cases ry
    obtain ⟨mB, O', _⟩ := ins_get I.hok hc
    obtain ⟨od', J', _⟩ := O'.look
    refine GB.rc_right (op := opOf ne) sb.room.units0 KX J J' hne hsub ?_
    cases ne with
    | false => exact GB.tc_eq KX J' o.eq hf (call A (.ref c) (.ref a) _ _ _ (sb.mono (Nat.le_succ n)) rfl rfl hr fun s' H' I' ex => ⟨b, rfl, _, rfl, by simp, H', I', ex⟩)
    | true => exact GB.tc_ne KX J' o.eq hf o.ne o.ob (in1_units sb.room.units) (call A.in1 (.ref c) (.ref a) _ _ _ sb.in1 rfl rfl hr fun s' H' I' ex => ⟨b, rfl, _, rfl, by cases b <;> rfl, H', I', ex⟩)
/-- from a rich comparison of references to == inside a list or tuple: an object is equal to itself, so D must say so -/
theorem RcB.eqB (h : RcB X n false D) (hr : ∀ x y H b, D x y H b → ∃ a c, x = .ref a ∧ y = .ref c ∧ (a = c → b = true)) : EqB X n D := by
  intro A pins s σ H x y u v b sb I rx ry d
  obtain ⟨a, c, rfl, rfl, hac⟩ := hr _ _ _ _ d
  cases rx
  cases ry
  by_cases hab : a = c
  · subst hab
    rw [hac rfl]
    exact SeqAt.EqAt.same (A := A) (s := s) (.ref a) X.prog X.w X.xe _ ⟨rfl, H, I, Ext.rfl'⟩
  · refine GQ.eqBool_refG hab (wpAny_mono (h A pins s σ H (.ref a) (.ref c) _ _ b sb I rfl rfl d) (fun r s' q => ?_) fun _ _ x => x)
    obtain ⟨hr', q⟩ := q
    exact ⟨b, by rw [hr']; simp, rfl, q⟩
/-- x == y, x != y as an expression -/
def rCmpB (ne : Bool) (D : EqvB) : R2 := fun x y H Q => ∃ b, D x y H b ∧ ∀ H', Ext H H' → Q (.bl (ne != b)) H'
theorem op_cmpB (h : RcB X n ne D) (hr : Room n X.A) : OpR X (compareOp (opOf ne)) (rCmpB ne D) := by
  intro pins s σ H x y v u Q I rx ry hq
  obtain ⟨b, d, q⟩ := hq
  have e : compareOp (opOf ne) v u = richCompare (opOf ne) v u := by cases ne <;> rfl
  rw [e]
  refine wpAny_mono (h X.A pins s σ H x y v u b ⟨hr, rfl⟩ I rx ry d) (fun r s' z => ?_) fun _ _ x => x
  obtain ⟨hr', H', I', e⟩ := z
  subst hr'
  exact ⟨.bl (ne != b), H', I', rfl, q H' e⟩
end
end L2

/-! Own classes: what the text says of a class, C() without __init__, isinstance, fields and constants and methods by the value's own class. -/
namespace L2
open PySem PySem.Spec PyProof.Rows
/-- the facts of an own class -/
structure OCls (K : PySem.W.Frag) (C : Addr) : Prop where
  cl : Cls K C
  ha : PySem.W.findIn K (.ref C) "__class__" = some (some (.builtin "object.__class__"))
  hn : PySem.W.specialIn K (.builtin "object.__class__") "__get__" = some (some (.builtin "getset_descriptor.__get__"))
  tk : PySem.W.takesIn K (.builtin "object.__class__") = some true
  hm : PySem.W.mroIn K C (.type "object") = some true
  ic : PySem.W.isClsIn K C = true
  ty : PySem.W.typeIn K (.ref C) = some (.type "type")
theorem OCls.ins {K : PySem.W.Frag} {C : Addr} (c : OCls K C) {H : Hp} {a dx : Addr} {fs : List (Str × V)} (e : H a = some (.ins C dx fs)) : TyX K H (.ref a) (.ref C) := .base (.ins e c.cl c.ha c.hn c.tk c.hm)
theorem OCls.kit {K : PySem.W.Frag} {C : Addr} (c : OCls K C) {t : Value} {b : Bool} (h : PySem.W.subIn K t (.ref C) = some b) (he : t = .ref C → b = true) : PySem.W.kitOne K t (.ref C) = some b := by
  unfold PySem.W.kitOne
  by_cases e : (t == Value.ref C) = true
  · rw [if_pos e, he (eq_of_beq e)]
  · rw [if_neg e]
    unfold PySem.W.kitCls
    have h1 : (PySem.W.clsIn K C).isSome = true := c.ic
    have h2 : (PySem.W.typeIn K (.ref C) == some (.type "type")) = true := by rw [c.ty]; simp
    show (if ((PySem.W.clsIn K C).isSome && PySem.W.typeIn K (.ref C) == some (.type "type")) = true then PySem.W.subIn K t (.ref C) else none) = some b
    rw [h1, h2]
    exact h
def rIsiC (K : PySem.W.Frag) : List V → Hp → VK → Prop := fun xs H Q => match xs with
  | [x, .ref C] => ∃ t b, TyX K H x t ∧ PySem.W.kitOne K t (.ref C) = some b ∧ Q (.bl b) H
  | [x, .ty n] => ∃ t b, TyX K H x t ∧ PySem.W.kitOne K t (.type n) = some b ∧ Q (.bl b) H
  | _ => False
/-- C() of a class without an __init__ -/
def tNewN (C : Addr) : TE := fun _ H Q => ∀ x dx, H x = none → H dx = none → dx ≠ x → Q (.ref x) (upd (upd H dx (.own x)) x (.ins C dx []))
structure MkN (K : PySem.W.Frag) (C : Addr) : Prop where
  makes : PySem.W.makesIn K C = true
  init : PySem.W.findIn K (.ref C) "__init__" = some (some (.builtin "object.__init__"))
  kp : PySem.W.keepIn K (.ref C) = true
section
variable {X : Cx} {C : Addr} {x : Str} {p pos : Pos}
theorem cc_isi {K : PySem.W.Frag} (hK : X.K = K := by rfl) : CallR X (.builtin "isinstance") (rIsiC K) := hK ▸ call_isi.weak fun xs H Q h => by
  unfold rIsiC at h
  split at h
  · obtain ⟨t, b, ty, e, q⟩ := h; exact ⟨_, _, t, _, b, rfl, .own _, ty, e, q⟩
  · obtain ⟨t, b, ty, e, q⟩ := h; exact ⟨_, _, t, _, b, rfl, .ty _, ty, e, q⟩
  · exact h.elim
theorem run_newN {pins : List (Addr × Obj)} {σ : St} {H : Hp} {s : Shared} {Q : VK} (M : MkN X.K C) (I : Inv X pins σ H s) (h : tNewN C σ H Q) : wpAny (model X.prog X.w) X.A (call (.ref C) []) (EP X pins σ Q) X.xe s := by
  have hq := h (s.heap.objs.size + 1) s.heap.objs.size (I.hok.fresh (Nat.le_succ _)) (I.hok.fresh (Nat.le_refl _)) (Nat.ne_of_lt (Nat.lt_succ_self _))
  have I2 := Inv.made (C := C) I
  refine wpAny_call (make_map0 I.kIn M.makes M.init (fun self => PySem.W.Looks.of_pure (PySem.W.oi_bind self)) ?_)
  have Y := PySem.W.makes_of (M := model X.prog X.w) I.kIn M.makes
  have t1 : PySem.W.Looks (model X.prog X.w) ((s.heap.push PySem.W.emptyDict).push (PySem.W.instObj C s.heap.objs.size)) (typeOf (.ref (s.heap.objs.size + 1))) (.ref C) := by
    refine typeOf_at (o := PySem.W.instObj C s.heap.objs.size) ?_
    have := Heap.get?_push_at (h := s.heap.push PySem.W.emptyDict) (o := PySem.W.instObj C s.heap.objs.size) rfl rfl
    rw [Heap.size_push] at this
    exact this
  have t2 : PySem.W.Looks (model X.prog X.w) ((s.heap.push PySem.W.emptyDict).push (PySem.W.instObj C s.heap.objs.size)) (isInstance (.ref (s.heap.objs.size + 1)) (.type "object")) true := t1.andThen (Y.top.keeps fun b o e => Heap.get?_push_of_some _ (Heap.get?_push_of_some _ e))
  refine codeAny_call_builtin PySem.W.oi_plain PySem.W.entry_oi (@PySem.W.check_slot (model X.prog X.w) _ _ _ "object.__init__" "object" "__init__" (.ref (s.heap.objs.size + 1)) [] [] _ PySem.W.oi_kind PySem.W.oi_split t2 (PySem.W.oi_args (.ref (s.heap.objs.size + 1))) ?_)
  rw [PySem.W.oi_run]
  exact wpAny_pure (And.intro rfl ⟨V.ref (s.heap.objs.size + 1), _, I2, rfl, hq⟩)
theorem pe_newN (M : MkN X.K C) (hg : Gl X x) (hm : X.mg x = some (.ref C)) (hdb : (x == ("__debug__" : Str)) = false := by decide) : PE X (.Call (.Name x p) [] [] pos) (tNewN C) := by
  refine ⟨fun pins s σ H Q I h => ?_⟩
  refine wpAny_Call_Name_kw (ld_glob I hg hm ?_ hdb)
  exact PySem.W.callWith_K0 I.kIn M.kp (run_newN M I h)
end
/-! ### attributes, by the object's own class -/
def tFldC (K : PySem.W.Frag) (ta : TE) (f : Str) : TE := fun σ H Q => ta σ H fun x H1 => match x with
  | .ref a => ∃ C dx fs v, H1 a = some (.ins C dx fs) ∧ Cls K C ∧ NoAttr K C f ∧ fs.lookup f = some v ∧ Q v H1
  | _ => False
def tConC (K : PySem.W.Frag) (ta : TE) (f : Str) : TE := fun σ H Q => ta σ H fun x H1 => match x with
  | .ref a => ∃ C dx fs v u, H1 a = some (.ins C dx fs) ∧ Cls K C ∧ Con K C f v u ∧ fs.lookup f = none ∧ Q v H1
  | _ => False
def sFldC (K : PySem.W.Frag) (ta tv : TE) (f : Str) : TS := fun D σ H => tv σ H fun y H1 => ta σ H1 fun x H2 => match x with
  | .ref a => ∃ C dx fs, H2 a = some (.ins C dx fs) ∧ Cls K C ∧ NoAttr K C f ∧ fs.length < 1000 ∧ D.nx σ (upd H2 a (.ins C dx (putF f y fs)))
  | _ => False
theorem rf_fun {f : Addr → Hp → Prop} {g : V → Hp → Prop} (e : ∀ a H, f a H ↔ g (.ref a) H) : (fun (x : V) (H1 : Hp) => match x with | .ref a => f a H1 | _ => False) = (fun (x : V) (H1 : Hp) => match x with | .ref a => g (.ref a) H1 | _ => False) := by
  funext x H1
  cases x with
  | ref a => exact propext (e a H1)
  | _ => rfl
theorem PE.rfc {X : Cx} {e : Expr} {te : TE} (h : PE X e te) : PE X e (fun σ H Q => te σ H fun x H1 => match x with | .ref a => Q (.ref a) H1 | _ => False) := ⟨fun pins s σ H Q I q => by
  refine thn (h.run pins s σ H _ I q) fun v s1 hv => ?_
  obtain ⟨x, H1, I1, r1, q1⟩ := hv
  cases x with
  | ref k => exact ⟨_, H1, I1, r1, q1⟩
  | _ => exact q1.elim⟩
section
variable {X : Cx} {e o value : Expr} {ta tv : TE} {f : Str} {pos pos' : Pos}
theorem ce_fld {K : PySem.W.Frag} (he : PE X e ta) (hb : attributeBase e f X.env (eval e X.env) = eval e X.env) (hK : X.K = K := by rfl) : PE X (.Attribute e f pos) (tFldC K ta f) := by
  subst hK
  refine (pe_fld he.rfc hb).weak fun σ H Q h => ?_
  have h' : ta σ H fun x H1 => match x with | .ref a => ∃ C dx fs v, H1 a = some (.ins C dx fs) ∧ Cls X.K C ∧ NoAttr X.K C f ∧ fs.lookup f = some v ∧ Q v H1 | _ => False := h
  rw [rf_fun (g := fun x H1 => ∃ a C dx fs v, x = .ref a ∧ H1 a = some (.ins C dx fs) ∧ Cls X.K C ∧ NoAttr X.K C f ∧ fs.lookup f = some v ∧ Q v H1) (fun a H1 => ⟨fun ⟨C, dx, fs, v, q⟩ => ⟨a, C, dx, fs, v, rfl, q⟩, fun ⟨a', C, dx, fs, v, e, q⟩ => by cases e; exact ⟨C, dx, fs, v, q⟩⟩)] at h'
  exact h'
theorem ce_con {K : PySem.W.Frag} (he : PE X e ta) (hb : attributeBase e f X.env (eval e X.env) = eval e X.env) (hK : X.K = K := by rfl) : PE X (.Attribute e f pos) (tConC K ta f) := by
  subst hK
  refine (pe_con he.rfc hb).weak fun σ H Q h => ?_
  have h' : ta σ H fun x H1 => match x with | .ref a => ∃ C dx fs v u, H1 a = some (.ins C dx fs) ∧ Cls X.K C ∧ Con X.K C f v u ∧ fs.lookup f = none ∧ Q v H1 | _ => False := h
  rw [rf_fun (g := fun x H1 => ∃ a C dx fs v u, x = .ref a ∧ H1 a = some (.ins C dx fs) ∧ Cls X.K C ∧ Con X.K C f v u ∧ fs.lookup f = none ∧ Q v H1) (fun a H1 => ⟨fun ⟨C, dx, fs, v, u, q⟩ => ⟨a, C, dx, fs, v, u, rfl, q⟩, fun ⟨a', C, dx, fs, v, u, e, q⟩ => by cases e; exact ⟨C, dx, fs, v, u, q⟩⟩)] at h'
  exact h'
theorem cs_fld {K : PySem.W.Frag} (ha : PE X o ta) (hv : PE X value tv) (hs : swapsWith value (some (.Attribute o f pos')) pos.line X.env = pure false) (hK : X.K = K := by rfl) : PS X (.Assign [.Attribute o f pos'] value pos) (sFldC K ta tv f) := by
  subst hK
  refine (ps_fld ha.rfc hv hs).weak fun D σ H h => ?_
  have h' : tv σ H fun y H1 => ta σ H1 fun x H2 => match x with | .ref a => ∃ C dx fs, H2 a = some (.ins C dx fs) ∧ Cls X.K C ∧ NoAttr X.K C f ∧ fs.length < 1000 ∧ D.nx σ (upd H2 a (.ins C dx (putF f y fs))) | _ => False := h
  have eq : (fun (y : V) (H1 : Hp) => ta σ H1 fun x H2 => match x with | .ref a => ∃ C dx fs, H2 a = some (.ins C dx fs) ∧ Cls X.K C ∧ NoAttr X.K C f ∧ fs.length < 1000 ∧ D.nx σ (upd H2 a (.ins C dx (putF f y fs))) | _ => False)
      = (fun (y : V) (H1 : Hp) => ta σ H1 fun x H2 => match x with | .ref a => (fun (x : V) (H2 : Hp) => ∃ a C dx fs, x = .ref a ∧ H2 a = some (.ins C dx fs) ∧ Cls X.K C ∧ NoAttr X.K C f ∧ fs.length < 1000 ∧ D.nx σ (upd H2 a (.ins C dx (putF f y fs)))) (.ref a) H2 | _ => False) := by
    funext y H1
    rw [rf_fun (g := fun x H2 => ∃ a C dx fs, x = .ref a ∧ H2 a = some (.ins C dx fs) ∧ Cls X.K C ∧ NoAttr X.K C f ∧ fs.length < 1000 ∧ D.nx σ (upd H2 a (.ins C dx (putF f y fs)))) (fun a H1 => ⟨fun ⟨C, dx, fs, q⟩ => ⟨a, C, dx, fs, rfl, q⟩, fun ⟨a', C, dx, fs, e, q⟩ => by cases e; exact ⟨C, dx, fs, q⟩⟩)]
  rw [eq] at h'
  exact h'
end
/-- o.m(..), the object's class one of some: i tells which -/
def tMethC (K : PySem.W.Frag) (C : Addr) (m : Str) (sp : Sp) (dvs : List V) (E : XK) (ta : TE) (t : TA) : TE := fun σ H Q => ta σ H fun x H1 => match x with
  | .ref a => ∃ dx fs, H1 a = some (.ins C dx fs) ∧ fs.lookup m = none ∧ t σ H1 fun vs H2 => sp (.ref a :: vs ++ dvs) H2 Q E
  | _ => False
end L2
namespace L2
open PySem PySem.Spec PyProof.Rows
section
variable {P : Program} {w : World} {K : PySem.W.Frag} {mg : Str → Option Value} {base : Heap}
theorem FunS.binds {x qual : Str} {st : Stmt} {f cda D : Addr} {fd : FuncData} {ps : List Str} (F : FunS K x qual st f cda D fd)
    (h : ∀ (kV doc pm : Value) (an : Option Addr) (ct : Value) (cc : Addr) (us : List Value), us.length = ps.length → bindArgs (PySem.W.ksFn x qual (defArgs st) (defBody st) (defScope st) .none kV doc pm an (.ref cda) ct cc) ⟨us, []⟩ = pure (ps.zip us)) : Binds K fd ps [] := by
  obtain ⟨oc, od, kV, doc, pm, an, ct, osl, cc, cl, cld, csl, rfl, _⟩ := F.ex
  exact .all (h kV doc pm an ct cc)
theorem funS_mk {x qual : Str} {st : Stmt} {f cda D cc : Addr} {oc : Value} {od an : Option Addr} {osl : Array (Option Value)} {kV doc pm ct cl : Value} {cld : Option Addr} {csl : Array (Option Value)}
    (l : K.lookup f = some ⟨oc, od, .func (PySem.W.ksFn x qual (defArgs st) (defBody st) (defScope st) .none kV doc pm an (.ref cda) ct cc), osl⟩)
    (c : PySem.W.codeIn K (.ref cda) qual = true) (hc : K.lookup cc = some ⟨cl, cld, .cell (some (.ref D)), csl⟩) (k : PySem.W.keepIn K (.ref f) = true) :
    FunS K x qual st f cda D (PySem.W.ksFn x qual (defArgs st) (defBody st) (defScope st) .none kV doc pm an (.ref cda) ct cc) := ⟨⟨oc, od, kV, doc, pm, an, ct, osl, cc, cl, cld, csl, rfl, l, c, hc⟩, k⟩
end
end L2

/-! An own exception class called with keywords: type.__call__, ValueError.__new__, the own __init__. -/
namespace PySem
namespace OEK
open PySem.W PySem.Calls PyProof.Rows PySem.HandSPX
open Builtin Builtin.ObjectAttr
section
variable {M : Model} {A : Around} {E : Value → Shared → Prop} {h : Heap} {g : Array GenState} {d : Drawn} {t : Nat} {os : OsState}
variable {nm q : Str} {C N : Addr} {bs bm bmB : List Value} {hdct : Bool} {sn : List Str} {sub : List Value} {ab : Bool} {col : Option Bool} {dd : Option Addr} {k0 k1 k2 k3 k5 : Option Value} {B newId initId : String}
theorem check_new_kw (F : ExcBaseFacts B newId initId bmB) (hT : ∀ X : String, bm.contains (.type X) = bmB.contains (.type X)) {rest : List Value} {kw : List (Str × Value)} {Q : Unit → Shared → Prop}
    (hC : h.get? C = some (excClassObj nm q C N bs bm hdct sn sub ab col dd k0 k1 k2 k3 k5 newId)) (hq : Q () ⟨h, g, d, t, os⟩) : wpAny M A (checkBuiltinCall newId ⟨.ref C :: rest, kw⟩) Q E ⟨h, g, d, t, os⟩ := by
  have hcont : (Value.ref C :: bm).contains (.type B) = true := by rw [List.contains_cons, hT, F.hasB, Bool.or_true]
  have hstar := F.noStar
  simp only [checkBuiltinCall, F.newKind, F.newSplit, F.newRow]
  repeat (first | refine wpAny_loadPart_at hC ?_ | (refine wpAny_isSubtype_exc hC ?_; rw [hcont]) | refine wpAny_staticBase_exc hC ?_ | refine wpAny_madeBy_exc hC ?_ | simp only [bne_self_eq_false, Bool.false_eq_true, if_false] | wp_step)
  exact hq
end
section
variable {prog : Program} {w : World} {A : Around} {E : Value → Shared → Prop} {R : Result → Shared → Prop} {h : Heap} {g : Array GenState} {d : Drawn} {t : Nat} {os : OsState}
variable {nm q : Str} {C N : Addr} {bs bm bmB : List Value} {hdct : Bool} {sn : List Str} {sub : List Value} {ab : Bool} {col : Option Bool} {dd : Option Addr} {k0 k1 k2 k3 k5 : Option Value} {B newId initId : String}
theorem new_kw (F : ExcBaseFacts B newId initId bmB) (hT : ∀ X : String, bm.contains (.type X) = bmB.contains (.type X)) {rest : List Value} {kw : List (Str × Value)}
    (hC : h.get? C = some (excClassObj nm q C N bs bm hdct sn sub ab col dd k0 k1 k2 k3 k5 newId))
    (hq : R (.ok (.ret (.ref (h.objs.size + 1)))) ⟨(h.push { cls := .type "tuple", data := .seq rest.toArray }).push
      { cls := .ref C, data := .fields #[.ref h.objs.size, .none, .none, .none, .bool false, .none] }, g, d, t, os⟩) (hrest : rest.length ≤ sizeLine) :
    codeAny (model prog w) A (.builtin newId ⟨.ref C :: rest, kw⟩) R ⟨h, g, d, t, os⟩ := by
  have hends := F.ends
  have hcB : (Value.ref C :: bm).contains (.type B) = true := by rw [List.contains_cons, hT, F.hasB, Bool.or_true]
  have hcA : (Value.ref C :: bm).contains (.type "AttributeError") = false := by rw [List.contains_cons, hT, F.noAttr]; rfl
  have hcN : (Value.ref C :: bm).contains (.type "NameError") = false := by rw [List.contains_cons, hT, F.noName]; rfl
  refine codeAny_builtinAt F.entry ?_
  unfold Builtin.«BaseException.__new__»
  refine wpAt_bind ?_
  show wpAt _ _ _ (stack >>= _) _ _ _
  refine wpAt_bind (wpAt_stack fun p below => wpAt_of_wpAny ?_)
  wp_walk
  refine wpAt_of_wpAny ?_
  rw [F.owner]
  repeat (first | with_reducible refine wpAny_madeHere_exc F.canon hC ?_ | with_reducible refine wpAny_loadPart_at hC ?_ | (with_reducible refine wpAny_isSubtype_exc hC ?_; first | rw [hcB] | rw [hcA] | rw [hcN]) | wp_step)
  show R _ _
  rw [Heap.size_push]
  exact hq

theorem type_call_kw (F : ExcBaseFacts B newId initId bmB) (hT : ∀ X : String, bm.contains (.type X) = bmB.contains (.type X)) {rest : List Value} {kw : List (Str × Value)} {fI : Addr} {Q : Fin → Shared → Prop}
    (hC : h.get? C = some (excClassObj nm q C N bs bm hdct sn sub ab col dd k0 k1 k2 k3 k5 newId))
    (hi : W.Looks (model prog w) h (typeLookup (.ref C) "__init__") (some (.ref fI))) (hb : ∀ self, W.Looks (model prog w) h (bindSpecial (.ref fI) self) (.ref fI, [self])) (hrest : rest.length ≤ sizeLine)
    (hq : codeAny (model prog w) A (.call (.ref fI) ⟨.ref (h.objs.size + 1) :: rest, kw⟩)
      (fun r s' => match r with | .ok (.ret v) => v = .none ∧ Q (.done (.ret (.ref (h.objs.size + 1)))) s' | .ok _ => False | .error e => E e s')
      ⟨(h.push (W.kdv_tup rest)).push (excO C h.objs.size), g, d, t, os⟩) :
    wpAny (model prog w) A (Builtin.«type.__call__» ⟨.ref C :: rest, kw⟩) Q E ⟨h, g, d, t, os⟩ := by
  repeat (first | with_reducible refine wpAny_loadPart_at hC ?_ | with_reducible refine wpAny_madeBy_exc hC ?_ | wp_step)
  refine codeAny_call_builtin_code (Code.quiet_builtin _ F.quiet) (check_new_kw F hT hC ?_)
  refine new_kw F hT hC ?_ hrest
  show wpAny _ _ _ _ _ _
  have k : ∀ b o, h.get? b = some o → ((h.push (W.kdv_tup rest)).push (excO C h.objs.size)).get? b = some o := fun b o e => Heap.get?_push_of_some _ (Heap.get?_push_of_some _ e)
  have hC₁ := k _ _ hC
  have hget : ((h.push (W.kdv_tup rest)).push (excO C h.objs.size)).get? (h.objs.size + 1) = some (excO C h.objs.size) := by heap_get
  have hcC : (Value.ref C :: bm).contains (.ref C) = true := by simp
  have i1 := hi.keeps k
  have b1 := (hb (.ref (h.objs.size + 1))).keeps k
  unfold isInstance
  repeat (first | with_reducible refine wpAny_loadPart_at hget ?_ | (with_reducible refine wpAny_isSubtype_exc hC₁ ?_; rw [hcC]) | wp_step)
  show wpAny _ _ (typeLookup (.ref C) _) _ _ _
  refine i1.at ?_
  refine wpAny_holding (wpAny_bind (b1.at ?_))
  refine wpAny_bind (wpAny_call (codeAny_mono hq fun r s' z => ?_))
  rcases r with e | (v | _ | _ | _) <;> first | exact z | exact z.elim | skip
  obtain ⟨rfl, z⟩ := z
  first
    | exact wpAny_pure (wpAny_pure z)
    | (wp_walk; exact z)
theorem check_type_call_kw {M : Model} {rest : List Value} {kw : List (Str × Value)} {Q : Unit → Shared → Prop} (hC : h.get? C = some (excClassObj nm q C N bs bm hdct sn sub ab col dd k0 k1 k2 k3 k5 newId))
    (hq : Q () ⟨h, g, d, t, os⟩) : wpAny M A (checkBuiltinCall "type.__call__" ⟨.ref C :: rest, kw⟩) Q E ⟨h, g, d, t, os⟩ := by
  have f3 := tc_sub
  have hT : (⟨h, g, d, t, os⟩ : Shared).TypeIs (.ref C) "type" := ⟨_, hC, rfl⟩
  simp only [checkBuiltinCall, tc_kind, tc_split]
  repeat (any_goals (first | assumption | with_reducible refine wpAny_loadPart_at hC ?_ | with_reducible refine wpAny_onRaise ?_ | with_reducible refine wpAny_map ?_ | wp_step))
theorem call_kw (F : ExcBaseFacts B newId initId bmB) (hT : ∀ X : String, bm.contains (.type X) = bmB.contains (.type X)) {rest : List Value} {kw : List (Str × Value)} {fI : Addr}
    (hC : h.get? C = some (excClassObj nm q C N bs bm hdct sn sub ab col dd k0 k1 k2 k3 k5 newId))
    (hi : W.Looks (model prog w) h (typeLookup (.ref C) "__init__") (some (.ref fI))) (hb : ∀ self, W.Looks (model prog w) h (bindSpecial (.ref fI) self) (.ref fI, [self])) (hrest : rest.length ≤ sizeLine)
    (hq : codeAny (model prog w) (A.under (.builtin "type.__call__" ⟨.ref C :: rest, kw⟩)) (.call (.ref fI) ⟨.ref (h.objs.size + 1) :: rest, kw⟩) (W.InitBack (h.objs.size + 1) R)
      ⟨(h.push (W.kdv_tup rest)).push (excO C h.objs.size), g, d, t, os⟩) :
    codeAny (model prog w) A (.call (.ref C) ⟨rest, kw⟩) R ⟨h, g, d, t, os⟩ := by
  have f1 := tc_lookup
  have f2 := tc_bind (.ref C)
  have hTy : (⟨h, g, d, t, os⟩ : Shared).TypeIs (.ref C) "type" := ⟨_, hC, rfl⟩
  refine codeAny_of_tree ?_
  show wpAny _ _ (callAny (.ref C) _) _ _ _
  repeat (any_goals (first | assumption | with_reducible refine wpAny_loadPart_at hC ?_ | wp_step))
  refine ⟨rfl, ?_⟩
  refine codeAny_call_builtin_at (Code.quiet_builtin _ (by decide +kernel)) entry_typeCall (check_type_call_kw hC (type_call_kw F hT hC hi hb hrest ?_))
  refine codeAny_mono hq fun r s' z => ?_
  rcases r with e | (v | _ | _ | _) <;> exact z
end
end OEK
end PySem

/-! Own errors as values: C(..) with an own __init__ that calls the base's, err.f, isinstance. -/
namespace PySem.W
open PySem PySem.Spec PySem.Calls PyProof.Rows
section
variable {prog : Program} {w : World} {A : Around} {E : Value → Shared → Prop} {s : Shared} {K : Frag} {x D : Addr} {ox : Obj} {od : Option Obj}
theorem findObj_dataO {C : Addr} {name : Str} {a g : Value} (hc : (clsIn K C).isSome = true) (ha : findIn K (.ref C) name = some (some a)) (hg : specialIn K a "__get__" = some (some g)) (ht : takesIn K a = some true) : findObj K C od name = some (.bind g a) := by
  obtain ⟨cd, hc⟩ := Option.isSome_iff_exists.mp hc
  unfold findObj
  rw [hc, Option.bind_some, ha, Option.bind_some]
  simp [hg, ht]
theorem kin_classO {Q : Option Value → Shared → Prop} (hga : findIn K (.ref D) "__getattribute__" = some (some (.builtin "BaseException.__getattribute__"))) (hgt : findIn K (.ref D) "__getattr__" = some none) (hsub : subIn K (.ref D) (.type "BaseException") = some true)
    (hdct : hasDictIn K D = true) (ha : findIn K (.ref D) "__class__" = some (some (.builtin "object.__class__")))
    (hn : specialIn K (.builtin "object.__class__") "__get__" = some (some (.builtin "getset_descriptor.__get__"))) (htk : takesIn K (.builtin "object.__class__") = some true) (hm : mroIn K D (.type "object") = some true)
    (X : K.In s.heap) (I : InstAt s.heap x ox D od) (h : Q (some (.ref D)) { s with toks := s.toks + 1 }) : wpAny (model prog w) A (getAttr? (.ref x) "__class__") Q E s := by
  have hf : findObj K D od "__class__" = some (.bind (.builtin "getset_descriptor.__get__") (.builtin "object.__class__")) := findObj_dataO (by obtain ⟨cd, hc, _⟩ := any_some hdct; rw [hc]; rfl) ha hn htk
  obtain ⟨hp, g, d, t, os⟩ := s
  have L0 := I.type (M := model prog w)
  have L1 := looks_findIn (M := model prog w) X hga
  have L2 := looks_findIn (M := model prog w) X hgt
  have L3 := looks_find (M := model prog w) X I hf
  have sub : Looks (model prog w) hp (isInstance (.ref x) (.type "BaseException")) true := L0.andThen (looks_subIn X hsub)
  have hx0 : (false && onTheHeap (Value.builtin "BaseException.__getattribute__")) = false := rfl
  have hx2 : (Value.builtin "BaseException.__getattribute__" == Value.builtin "object.__getattribute__") = false := by decide +kernel
  have hx1 : (onTheHeap (Value.ref D) && Value.builtin "BaseException.__getattribute__" == Value.builtin "object.__getattribute__") = false := by rw [hx2]; rfl
  unfold getAttr? getAttrBy? getAttrBy
  refine wpAny_bind (wpAny_mkText (wpAny_bind (wpAny_attempt (wpAny_holding (wpAny_bind (L0.at (wpAny_bind (L1.at ?_))))))))
  show wpAny _ _ (if (onTheHeap (Value.ref D) && Value.builtin "BaseException.__getattribute__" == Value.builtin "object.__getattribute__") = true then _ else _) _ _ _
  rw [hx1, if_neg Bool.false_ne_true]
  unfold getAttrByItsOwn hookBefore
  refine wpAny_bind ?_
  rw [if_pos (show onTheHeap (Value.ref D) = true from rfl)]
  refine L2.at ?_
  refine wpAny_bind (wpAny_attempt (wpAny_holding ?_))
  unfold callGetattribute
  rw [hx0, if_neg Bool.false_ne_true]
  unfold boundAndCalled
  rw [PySem.F.excAttr_ValueError.ga.bind (.ref x)]
  refine wpAny_bind (wpAny_pure ?_)
  show wpAny _ _ (call (.builtin "BaseException.__getattribute__") [.ref x, .str "__class__" t]) _ _ _
  refine wpAny_call (codeAny_call_builtin PySem.F.excAttr_ValueError.ga.plain PySem.F.entry_bexc_ga ?_)
  refine @check_slot (model prog w) _ _ ⟨hp, g, d, t + 1, os⟩ "BaseException.__getattribute__" "BaseException" "__getattribute__" (.ref x) [.str "__class__" t] [] _ (by decide +kernel) (by decide +kernel) sub (PySem.F.args_bexc_ga (.ref x) (.str "__class__" t)) ?_
  unfold Builtin.«object.__getattribute__»
  refine wpAny_bind (wpAny_of_eq (a := ((Value.ref x : Value), [Value.str "__class__" t])) (by first | rfl | (simp only [slotArgs]; rfl)) ?_)
  refine wpAny_bind (wpAny_pure (wpAny_bind (L0.at (wpAny_bind (L3.at ?_)))))
  show wpAny _ _ (holding [Value.builtin "object.__class__"] (call (.builtin "getset_descriptor.__get__") [.builtin "object.__class__", .ref x, .ref D]) >>= ret) _ _ _
  refine wpAny_bind (wpAny_holding (wpAny_call (class_get (s := ⟨hp, g, d, t + 1, os⟩) (ox := ox) (od := od) X I hm ?_)))
  refine wpAny_pure ?_
  show wpAny _ _ (handedOut (.ref D)) _ _ _
  rw [handedOut_of (v := .ref D) rfl]
  first
    | exact wpAny_pure (wpAny_pure h)
    | exact wpAny_pure h
    | exact wpAny_pure (wpAny_bind (wpAny_pure (wpAny_pure h)))
theorem kitx_excO (hga : findIn K (.ref D) "__getattribute__" = some (some (.builtin "BaseException.__getattribute__"))) (hgt : findIn K (.ref D) "__getattr__" = some none) (hsub : subIn K (.ref D) (.type "BaseException") = some true) (hdct : hasDictIn K D = true) (ha : findIn K (.ref D) "__class__" = some (some (.builtin "object.__class__")))
    (hn : specialIn K (.builtin "object.__class__") "__get__" = some (some (.builtin "getset_descriptor.__get__"))) (htk : takesIn K (.builtin "object.__class__") = some true) (hm : mroIn K D (.type "object") = some true) :
    KitX K (.ref x) (.ref D) (fun h => InstAt h x ox D od) where
  ty := fun _ _ _ I => I.type
  it := fun _ _ X _ => by
    obtain ⟨cdD, hcD, _⟩ := any_some hdct
    unfold clsIn at hcD
    split at hcD
    · rename_i c' d' cd' sl' ho
      intro A' Q' E' s' k q
      unfold isType loadHead
      exact wpAny_bind (wpAny_loadPart (k _ _ (X _ _ ho)) (wpAny_pure q))
    · cases hcD
  ne := fun h tp dd its n sl X htp => by
    obtain ⟨cdD, hcD, _⟩ := any_some hdct
    refine Bool.eq_false_iff.mpr fun q => ?_
    have e : D = tp := Value.ref.inj (beq_iff_eq.mp q)
    subst e
    unfold clsIn at hcD
    split at hcD
    · rename_i c' d' cd' sl' ho
      have z := (X _ _ ho).symm.trans htp
      cases z
    · cases hcD
  ca := fun X I k => kin_classO hga hgt hsub hdct ha hn htk hm X I k
end
end PySem.W
namespace L2
open PySem PySem.Spec PyProof.Rows
/-- what the text says of an error class whose __init__ is the def at fI -/
structure OxF (K : PySem.W.Frag) (C fI : Addr) : Prop where
  oex : OexC K C
  hg : PySem.W.findIn K (.ref C) "__getattribute__" = some (some (.builtin "BaseException.__getattribute__"))
  hk : PySem.W.findIn K (.ref C) "__getattr__" = some none
  hd : PySem.W.hasDictIn K C = true
  ha : PySem.W.findIn K (.ref C) "__class__" = some (some (.builtin "object.__class__"))
  hn : PySem.W.specialIn K (.builtin "object.__class__") "__get__" = some (some (.builtin "getset_descriptor.__get__"))
  tk : PySem.W.takesIn K (.builtin "object.__class__") = some true
  hm : PySem.W.mroIn K C (.type "object") = some true
  ini : PySem.W.findIn K (.ref C) "__init__" = some (some (.ref fI))
  fn : PySem.W.isFn K (.ref fI) = true
/-- at a: an error of the class C with the fields fs -/
def ErrAt (H : Hp) (a C : Addr) (fs : List (Str × V)) : Prop := (fs = [] ∧ H a = some (exo a C none)) ∨ ∃ d, H a = some (exo a C (some d)) ∧ H d = some (exd d fs)
theorem ErrAt.same {H H' : Hp} {a C : Addr} {fs : List (Str × V)} (h : ErrAt H a C fs) (e : Same H H') : ErrAt H' a C fs := by
  rcases h with ⟨h1, h2⟩ | ⟨d, h1, h2⟩
  · exact .inl ⟨h1, e _ _ h2⟩
  · exact .inr ⟨d, e _ _ h1, e _ _ h2⟩
theorem ErrAt.inst {X : Cx} {pins : List (Addr × Obj)} {σ : St} {H : Hp} {s : Shared} {a C : Addr} {fs : List (Str × V)} (I : Inv X pins σ H s) (h : ErrAt H a C fs) :
    ∃ ox od, PySem.W.InstAt s.heap a ox C od ∧ ∀ f v, fs.lookup f = some v → ∃ o u, od = some o ∧ PySem.W.lookIn f o = some (some u) ∧ RelV v u := by
  rcases h with ⟨h1, h2⟩ | ⟨d, h1, h2⟩
  · obtain ⟨t1, ho⟩ := exo_at I.hok h2
    exact ⟨_, none, ⟨ho, rfl, rfl, trivial⟩, fun f v e => by rw [h1] at e; cases e⟩
  · obtain ⟨t1, ho⟩ := exo_at I.hok h1
    obtain ⟨mA, hns, rel⟩ := exd_at I.hok h2
    have hns0 := hns
    obtain ⟨od, hod, hl⟩ := lookIn_ns hns0
    refine ⟨_, some od, ⟨ho, rfl, rfl, hod⟩, fun f v e => ?_⟩
    obtain ⟨u, hu, ru⟩ := RelO.some_of (v := v) (o := mA f) (by rw [← e]; exact rel f)
    exact ⟨od, u, rfl, by rw [hl, hu], ru⟩
section
variable {X : Cx} {o e : Expr} {es : List Expr} {to te : TE} {ta : TA} {f : Str} {p p' p1 p2 pos : Pos}
/-- isinstance(err, c) -/
def rIsX (K : PySem.W.Frag) : List V → Hp → VK → Prop := fun xs H Q => match xs with
  | [.ref a, .ref D] => ∃ C fI fs b, ErrAt H a C fs ∧ OxF K C fI ∧ PySem.W.kitOne K (.ref C) (.ref D) = some b ∧ Q (.bl b) H
  | [.ref a, .ty n] => ∃ C fI fs b, ErrAt H a C fs ∧ OxF K C fI ∧ PySem.W.kitOne K (.ref C) (.type n) = some b ∧ Q (.bl b) H
  | _ => False
theorem cc_isX {K : PySem.W.Frag} (hK : X.K = K := by rfl) : CallR X (.builtin "isinstance") (rIsX K) := by
  subst hK
  intro pins s σ H xs us Q I r h
  unfold rIsX at h
  split at h
  · obtain ⟨C, fI, fs, b, he, T, e, q⟩ := h
    obtain ⟨u1, u2, rfl, r1, r2⟩ := vals2 r
    cases (show u1 = Value.ref _ from r1)
    cases (show u2 = Value.ref _ from r2)
    obtain ⟨ox, od, J, _⟩ := he.inst I
    exact PySem.W.kia_one (PySem.W.kitx_excO T.hg T.hk T.oex.exC T.hd T.ha T.hn T.tk T.hm) I.kIn J e (fun z => nomatch z) fun tk => ⟨.bl b, H, I.tok tk, rfl, q⟩
  · obtain ⟨C, fI, fs, b, he, T, e, q⟩ := h
    obtain ⟨u1, u2, rfl, r1, r2⟩ := vals2 r
    cases (show u1 = Value.ref _ from r1)
    cases (show u2 = Value.type _ from r2)
    obtain ⟨ox, od, J, _⟩ := he.inst I
    exact PySem.W.kia_one (PySem.W.kitx_excO T.hg T.hk T.oex.exC T.hd T.ha T.hn T.tk T.hm) I.kIn J e (fun z => nomatch z) fun tk => ⟨.bl b, H, I.tok tk, rfl, q⟩
  · exact h.elim
/-- err.f -/
def tFldX (K : PySem.W.Frag) (ta : TE) (f : Str) : TE := fun σ H Q => ta σ H fun x H1 => match x with
  | .ref a => ∃ C fI fs v, ErrAt H1 a C fs ∧ OxF K C fI ∧ PySem.W.findIn K (.ref C) f = some none ∧ fs.lookup f = some v ∧ Q v H1
  | _ => False
theorem ce_fldX {K : PySem.W.Frag} {t : TE} (he : PE X e t) (hb : attributeBase e f X.env (eval e X.env) = eval e X.env) (hK : X.K = K := by rfl) : PE X (.Attribute e f pos) (tFldX K t f) := by
  subst hK
  refine ⟨fun pins s σ H Q I h => ?_⟩
  refine attr_of hb (thn (he.run pins s σ H _ I h) fun u s1 hh => ?_)
  obtain ⟨x, H1, I1, rx, q⟩ := hh
  cases x with
  | ref a =>
    obtain ⟨C, fI, fs, v, ea, T, hno, l, q⟩ := q
    obtain rfl : u = Value.ref a := rx
    obtain ⟨ox, od, J, k⟩ := ea.inst I1
    obtain ⟨o, u, rfl, hl, ru⟩ := k f v l
    exact HandSPX.exc_get I1.kIn J T.hg T.hk T.oex.exC (PySem.W.findObj_own T.hd hno rfl hl) (handed_of ru) ⟨v, H1, I1.tok _, ru, q⟩
  | _ => exact q.elim
/-- B.__init__(self, ..), B an own class over ValueError without an __init__ -/
structure BaseI (K : PySem.W.Frag) (C : Addr) : Prop where
  rd : ClX.CRead K C (.type "type")
  at_ : PySem.W.findCls K (.ref C) (.type "type") "__init__" = some (.val (.builtin "ValueError.__init__"))
theorem pe_coinit {x : Str} {C : Addr} {pl : Sem Bool} (hg : Gl X x) (hm : X.mg x = some (.ref C)) (b : BaseI X.K C) (ha : PA X (e :: es) ta)
    (hdb : (x == ("__debug__" : Str)) = false := by decide)
    (hc : eval (.Call (.Attribute (.Name x p1) "__init__" p2) (e :: es) [] pos) X.env = (do
      let ov ← eval (.Name x p1) X.env
      standAt p2.atName
      let (f, first) ← holding [ov] (getMethod ov "__init__" pl)
      callWith pos f first (backTo pos (starEach (e :: es) X.env)) (backToKw pos (keywordEach [] X.env))) := by rfl)
    (he : starEach (e :: es) X.env = (false, eval e X.env) :: starEach es X.env := by rfl) (hpl : (backTo pos (starEach es X.env)).any (·.1) = false := by rfl) :
    PE X (.Call (.Attribute (.Name x p1) "__init__" p2) (e :: es) [] pos) (tVeI X.K ta) := by
  refine ⟨fun pins s σ H Q I h => ?_⟩
  refine PySem.W.methodCall_KW (ld_glob I hg hm ?_ hdb) hc
  refine PySem.W.method_cls I.kIn b.rd.ga (PySem.W.cls_value I.kIn b.rd.rd b.at_ (show PySem.W.handedIn (Value.builtin "ValueError.__init__") = true by decide +kernel) ?_)
  show wpAny _ _ (callWith pos (Value.builtin "ValueError.__init__") [] (backTo pos (starEach (e :: es) X.env)) []) _ _ _
  refine PyProof.Rows.callWith_method1 (thn (ha.run pos pins _ σ H _ (I.tok _) h) fun us s1 ⟨vs, H1, I1, r1, a, C, ws, ev, hl, T, ea, q⟩ => ?_) he hpl
  subst ev
  cases r1 with
  | @cons _ u0 _ ur ra rw' =>
    obtain rfl : u0 = Value.ref a := ra
    have hlen : ur.length ≤ sizeLine := by
      rw [← Paired.length rw', sizeLine_eq]
      omega
    exact oinit_ok T I1 ea hlen fun s' J => ⟨.non, H1, J, rfl, q⟩
/-! ### C(..) -/
def tMkX (C : Addr) (sp : Sp) (gV : List V → List V → List V) (n m : Nat) (ta tk : TA) : TE := fun σ H Q => ta σ H fun vs H1 => tk σ H1 fun zs H2 => vs.length = n ∧ zs.length = m ∧ n ≤ 1000 ∧
  ∀ a, H2 a = none → sp (gV (.ref a :: vs) zs) (upd H2 a (exo a C none)) (fun v H3 => v = .non ∧ Q (.ref a) H3) (fun _ _ _ => False)
variable {CX : CXT} {k n : Nat} {fI C : Addr} {fd : FuncData} {ps ks : List Str} {sp : Sp} {x : Str} {kws : List Keyword} {t tk : TA} {g : List Value → List Value → List Value} {gV : List V → List V → List V}
theorem run_mkX {pins : List (Addr × Obj)} {σ : St} {H : Hp} {s : Shared} {Q : VK} {us ws : List Value} {vs zs : List V} (M : OxF X.K C fI) (F1 : FnOk X.prog X.w X.K X.mg X.base CX k fI fd ps sp) (hr : Room (k + 1) X.A) (hb : KBn X.K fd ps (n + 1) ks g gV)
    (hx : Passes CX X (fun _ _ _ => False)) (I1 : Inv X pins σ H s) (r : Vals vs us) (rz : Vals zs ws) (l1 : vs.length = n) (l2 : zs.length = ks.length) (ln : n ≤ 1000)
    (h : ∀ a, H a = none → sp (gV (.ref a :: vs) zs) (upd H a (exo a C none)) (fun v H3 => v = .non ∧ Q (.ref a) H3) (fun _ _ _ => False)) :
    wpAny (model X.prog X.w) X.A (call (.ref C) us (ks.zip ws)) (EP X pins σ Q) X.xe s := by
  obtain ⟨nm, q, N, bs, bm, sn, sub, ab, col, dd, k0, k1, k2, k3, k5, hC, hbm⟩ := M.oex.cls
  obtain ⟨hp, g', dr, tk', os⟩ := s
  have hsz : hp.objs.size ≤ hp.objs.size + 1 := Nat.le_succ _
  have hn : H (hp.objs.size + 1) = none := I1.hok.fresh hsz
  have hq := h (hp.objs.size + 1) hn
  have kk : ∀ b o, hp.get? b = some o → ((hp.push (PySem.W.kdv_tup us)).push (PySem.HandSPX.excO C hp.objs.size)).get? b = some o := fun b o e => Heap.get?_push_of_some _ (Heap.get?_push_of_some _ e)
  have hget : ((hp.push (PySem.W.kdv_tup us)).push (PySem.HandSPX.excO C hp.objs.size)).get? (hp.objs.size + 1) = some (PySem.HandSPX.excO C hp.objs.size) := by heap_get
  have I2 : Inv X pins σ (upd H (hp.objs.size + 1) (exo (hp.objs.size + 1) C none)) ⟨(hp.push (PySem.W.kdv_tup us)).push (PySem.HandSPX.excO C hp.objs.size), g', dr, tk', os⟩ :=
    I1.laid (t' := tk') (a := hp.objs.size + 1) (o := exo (hp.objs.size + 1) C none) (h' := (hp.push (PySem.W.kdv_tup us)).push (PySem.HandSPX.excO C hp.objs.size)) kk hsz (exo_ok hget)
  have r1 : Vals (V.ref (hp.objs.size + 1) :: vs) (Value.ref (hp.objs.size + 1) :: us) := .cons rfl r
  have r2 := hb.rel r1 rz
  have e1 : (Value.ref (hp.objs.size + 1) :: us).length = n + 1 := r1.length.symm.trans (congrArg Nat.succ l1)
  have e2 : ws.length = ks.length := rz.length.symm.trans l2
  have hus : us.length ≤ sizeLine := by
    rw [← Paired.length r, sizeLine_eq]
    omega
  refine wpAny_call (PySem.OEK.call_kw F.excBase_ValueError (fun Y => PySem.HandSPX.refsVE_contains Y bm hbm) (I1.kIn _ _ hC) (PySem.W.looks_findIn I1.kIn M.ini) (fun self => PySem.W.bind_fn I1.kIn self (beq_iff_eq.mp M.fn)) hus
    (codeAny_mono (F1.run _ X.stack _ _ ⟨Value.ref (hp.objs.size + 1) :: us, ks.zip ws⟩ (g (Value.ref (hp.objs.size + 1) :: us) ws) _ _ (fun _ _ _ => False) (hr.make C us (ks.zip ws)) (I2.env0.make C us (ks.zip ws)) (hb.to _ (Value.ref (hp.objs.size + 1) :: us) ws I2.kIn e1 e2) r2 hq) fun r s' hq' => ?_))
  cases r with
  | error er => exact hx pins σ _ _ er s' I2 hq'
  | ok fl =>
    cases fl with
    | ret u =>
      obtain ⟨v, H', I3, rv, ev, q3⟩ := I2.after hq'
      subst ev
      exact ⟨rv, ⟨V.ref (hp.objs.size + 1), H', I3, rfl, q3⟩⟩
    | next => exact False.elim hq'
    | brk => exact False.elim hq'
    | cont => exact False.elim hq'
theorem pe_mkX (M : OxF X.K C fI) (F1 : FnOk X.prog X.w X.K X.mg X.base CX k fI fd ps sp) (hr : Room (k + 1) X.A) (hg : Gl X x) (hm : X.mg x = some (.ref C)) (hb : KBn X.K fd ps (n + 1) ks g gV) (hx : Passes CX X (fun _ _ _ => False))
    (ha : PA X (e :: es) t) (hkw : PK X kws tk) (hall : (backToKw pos (keywordEach kws X.env)).all (·.1.isSome) = true := by rfl) (hks : (backToKw pos (keywordEach kws X.env)).filterMap (·.1) = ks := by rfl)
    (hdb : (x == ("__debug__" : Str)) = false := by decide) (he : starEach (e :: es) X.env = (false, eval e X.env) :: starEach es X.env := by rfl)
    (hpl : ((backTo pos (starEach (e :: es) X.env)).any (·.1) || (backToKw pos (keywordEach kws X.env)).any (·.1.isNone)) = false := by rfl) :
    PE X (.Call (.Name x p) (e :: es) kws pos) (tMkX C sp gV n ks.length t tk) := by
  refine ⟨fun pins s σ H Q I h => ?_⟩
  refine wpAny_Call_Name_kw (ld_glob I hg hm ?_ hdb)
  refine PySem.W.callWith_KW (h₀ := X.base) I.ok.mod.kin M.oex.kC hall (thn (ha.run pos pins s σ H _ I h) fun us s1 ⟨vs, H1, I1, r, q⟩ => ?_) hpl he
  refine thn (hkw.run pos pins s1 σ H1 _ I1 q) fun ws s2 ⟨zs, H2, I2, rz, l1, l2, ln, q2⟩ => ⟨I2.kIn, ?_⟩
  rw [hks]
  exact run_mkX M F1 hr hb hx I2 r rz l1 l2 ln q2
theorem pe_mkX0 (M : OxF X.K C fI) (F1 : FnOk X.prog X.w X.K X.mg X.base CX k fI fd ps sp) (hr : Room (k + 1) X.A) (hg : Gl X x) (hm : X.mg x = some (.ref C)) (hb : KBn X.K fd ps (0 + 1) ks g gV) (hx : Passes CX X (fun _ _ _ => False))
    (hkw : PK X kws tk) (hall : (backToKw pos (keywordEach kws X.env)).all (·.1.isSome) = true := by rfl) (hks : (backToKw pos (keywordEach kws X.env)).filterMap (·.1) = ks := by rfl)
    (hdb : (x == ("__debug__" : Str)) = false := by decide)
    (hpl : ((backTo pos (starEach [] X.env)).any (·.1) || (backToKw pos (keywordEach kws X.env)).any (·.1.isNone)) = false := by rfl) :
    PE X (.Call (.Name x p) [] kws pos) (tMkX C sp gV 0 ks.length tNil tk) := by
  refine ⟨fun pins s σ H Q I h => ?_⟩
  refine wpAny_Call_Name_kw (ld_glob I hg hm ?_ hdb)
  refine PySem.W.callWith_KW0 (h₀ := X.base) I.ok.mod.kin M.oex.kC hall (thn (hkw.run pos pins s σ H _ I h) fun ws s2 ⟨zs, H2, I2, rz, l1, l2, ln, q2⟩ => ⟨I2.kIn, ?_⟩) hpl
  rw [hks]
  exact run_mkX (us := []) M F1 hr hb hx I2 .nil rz l1 l2 ln q2
end
/-- what is asked of the text for an error class -/
structure OxC (K : PySem.W.Frag) (C : Addr) : Prop where
  oex : OexC K C
  hg : PySem.W.findIn K (.ref C) "__getattribute__" = some (some (.builtin "BaseException.__getattribute__"))
  hk : PySem.W.findIn K (.ref C) "__getattr__" = some none
  hd : PySem.W.hasDictIn K C = true
  ha : PySem.W.findIn K (.ref C) "__class__" = some (some (.builtin "object.__class__"))
  hm : PySem.W.mroIn K C (.type "object") = some true
theorem OxC.mkF {K : PySem.W.Frag} {C fI : Addr} (o : OxC K C) (hn : PySem.W.specialIn K (.builtin "object.__class__") "__get__" = some (some (.builtin "getset_descriptor.__get__"))) (tk : PySem.W.takesIn K (.builtin "object.__class__") = some true)
    (ini : PySem.W.findIn K (.ref C) "__init__" = some (some (.ref fI))) (fn : PySem.W.isFn K (.ref fI) = true) : OxF K C fI := ⟨o.oex, o.hg, o.hk, o.hd, o.ha, hn, tk, o.hm, ini, fn⟩
section
variable {K : PySem.W.Frag}
theorem kbn_of {fd : FuncData} {ps : List Str} {n : Nat} (h : Binds K fd ps []) (hn : ps.length = n) : KBn K fd ps n [] (fun us _ => us) (fun vs _ => vs) where
  to := fun s us ws X l1 l2 => by
    have b := h s us X (by rw [List.append_nil, l1, hn])
    rw [List.append_nil] at b
    exact b
  rel := fun r _ => r
theorem Fun.kbn {x qual : Str} {st : Stmt} {f : Addr} {fd : FuncData} {ps ks : List Str} {n : Nat} {g : List Value → List Value → List Value} {gV : List V → List V → List V} (F : Fun K x qual st f fd)
    (h : ∀ (kV doc pm : Value) (an : Option Addr) (cdv ct : Value) (us ws : List Value), us.length = n → ws.length = ks.length → bindArgs (PySem.W.fnOf x qual (defArgs st) (defBody st) (defScope st) .none kV doc pm an cdv ct) ⟨us, ks.zip ws⟩ = pure (ps.zip (g us ws)))
    (hrel : ∀ {vs : List V} {us : List Value} {zs : List V} {ws : List Value}, Vals vs us → Vals zs ws → Vals (gV vs zs) (g us ws)) : KBn K fd ps n ks g gV := by
  obtain ⟨oc, od, kV, doc, pm, an, cdv, ct, osl, rfl, lk, hcd⟩ := F.ex
  exact ⟨fun s us ws X l1 l2 => .of_eq (h kV doc pm an cdv ct us ws l1 l2), hrel⟩
theorem vals_rev {zs : List V} {ws : List Value} (h : Vals zs ws) : Vals zs.reverse ws.reverse := by
  induction h with
  | nil => exact .nil
  | cons a _ ih =>
    rw [List.reverse_cons, List.reverse_cons]
    exact ih.append (.cons a .nil)
end
def rIntC : List V → Hp → VK → Prop := fun xs H Q => match xs with
  | [.int i] => Q (.int i) H
  | _ => False
theorem cc_int {X : Cx} : CallR X (.type "int") rIntC := call_int1.weak fun xs H Q h => by
  unfold rIntC at h
  split at h
  · exact .inl ⟨_, rfl, h⟩
  · exact h.elim
end L2

/-! Own errors raised and caught: raise C(..), try .. except C as e, isinstance(e, ..), e.f in the suite; calls, methods, makings that let errors pass at the slots. -/
namespace L2
open PySem PySem.Spec PyProof.Rows
/-! ### what is never reached; readings made monotone -/
section
variable {X : Cx}
theorem ps_dead {st : Stmt} : PS X st (fun _ _ _ => False) := ⟨fun _ _ _ _ _ _ h => h.elim⟩
theorem pss_dead {st : List Stmt} : PSs X st (fun _ _ _ => False) := ⟨fun _ _ _ _ _ _ h => h.elim⟩
theorem pe_dead {e : Expr} : PE X e (fun _ _ _ => False) := ⟨fun _ _ _ _ _ _ h => h.elim⟩
theorem PA.mon {es : List Expr} {t : TA} (h : PA X es t) : PA X es (fun σ H Q => ∃ R : List V → Hp → Prop, t σ H R ∧ ∀ vs H', R vs H' → Q vs H') :=
  ⟨fun pos pins s σ H Q I ⟨R, h1, h2⟩ => thn (h.run pos pins s σ H R I h1) fun us s1 ⟨vs, H1, I1, r1, q1⟩ => ⟨vs, H1, I1, r1, h2 vs H1 q1⟩⟩
theorem PE.mon {e : Expr} {t : TE} (h : PE X e t) : PE X e (fun σ H Q => ∃ R : VK, t σ H R ∧ ∀ v H', R v H' → Q v H') :=
  ⟨fun pins s σ H Q I ⟨R, h1, h2⟩ => thn (h.run pins s σ H R I h1) fun u s1 ⟨v, H1, I1, r1, q1⟩ => ⟨v, H1, I1, r1, h2 v H1 q1⟩⟩
end
/-! ### C(..), o.m(..) whose errors pass at the slots -/
def tMakeS (C : Addr) (sp : Sp) (E : St → XK) (t : TA) : TE := fun σ H Q => t σ H fun vs H1 => ∀ x dx, H1 x = none → H1 dx = none → dx ≠ x →
  sp (.ref x :: vs) (upd (upd H1 dx (.own x)) x (.ins C dx [])) (fun v H2 => v = .non ∧ Q (.ref x) H2) (E σ)
def tMethQ (C : Addr) (m : Str) (sp : Sp) (E : St → XK) (ta : TE) (t : TA) : TE := fun σ H Q => ta σ H fun x H1 => ∃ a dx fs, x = .ref a ∧ H1 a = some (.ins C dx fs) ∧ fs.lookup m = none ∧
  t σ H1 fun vs H2 => sp (x :: vs) H2 Q (E σ)
section
variable {X : Cx} {CX : CXT} {k : Nat} {f C : Addr} {fd : FuncData} {ps : List Str} {sp : Sp} {E : St → XK} {x m : Str} {p pos apos : Pos} {e o : Expr} {es : List Expr} {ta : TE} {t : TA}
theorem run_makeS {pins : List (Addr × Obj)} {σ : St} {H : Hp} {s : Shared} {Q : VK} {us : List Value} {vs : List V} (M : Mk X.K C f) (F : FnOk X.prog X.w X.K X.mg X.base CX k f fd ps sp) (hr : Room (k + 1) X.A) (hb : Binds X.K fd ps [])
    (hx : PassesAt CX X σ (E σ)) (I : Inv X pins σ H s) (r : Vals vs us)
    (h : ∀ x dx, H x = none → H dx = none → dx ≠ x → sp (.ref x :: vs) (upd (upd H dx (.own x)) x (.ins C dx [])) (fun v H2 => v = .non ∧ Q (.ref x) H2) (E σ)) :
    wpAny (model X.prog X.w) X.A (call (.ref C) us) (EP X pins σ Q) X.xe s := by
  have hq := h (s.heap.objs.size + 1) s.heap.objs.size (I.hok.fresh (Nat.le_succ _)) (I.hok.fresh (Nat.le_refl _)) (Nat.ne_of_lt (Nat.lt_succ_self _))
  have J := Inv.made (C := C) I
  have r2 : Vals (V.ref (s.heap.objs.size + 1) :: vs) (Value.ref (s.heap.objs.size + 1) :: us) := .cons rfl r
  have hl : (Value.ref (s.heap.objs.size + 1) :: us).length = ps.length := by rw [← F.len _ _ _ _ hq]; exact r2.length.symm
  have b := hb _ (Value.ref (s.heap.objs.size + 1) :: us) J.kIn (by rw [List.append_nil]; exact hl)
  rw [List.append_nil] at b
  refine wpAny_call (make_map (f := f) I.kIn M.makes M.init (beq_iff_eq.mp M.fn) (codeAny_mono (F.run _ X.stack _ _ ⟨Value.ref (s.heap.objs.size + 1) :: us, []⟩ (Value.ref (s.heap.objs.size + 1) :: us) _ _ (E σ) (hr.make C us []) (J.env0.make C us []) b r2 hq) fun res s' z => ?_))
  cases res with
  | error er => exact hx pins _ _ er s' J z
  | ok fl =>
    cases fl with
    | ret u =>
      obtain ⟨v, H', I3, rv, ev, q3⟩ := J.after z
      subst ev
      exact ⟨rv, ⟨V.ref (s.heap.objs.size + 1), H', I3, rfl, q3⟩⟩
    | next => exact z.elim
    | brk => exact z.elim
    | cont => exact z.elim
theorem pe_makeS (M : Mk X.K C f) (F : FnOk X.prog X.w X.K X.mg X.base CX k f fd ps sp) (hr : Room (k + 1) X.A) (hg : Gl X x) (hm : X.mg x = some (.ref C)) (hb : Binds X.K fd ps []) (hx : ∀ σ, PassesAt CX X σ (E σ))
    (ha : PA X (e :: es) t) (hdb : (x == ("__debug__" : Str)) = false := by decide) (he : starEach (e :: es) X.env = (false, eval e X.env) :: starEach es X.env := by rfl) (hpl : (backTo pos (starEach es X.env)).any (·.1) = false := by rfl) :
    PE X (.Call (.Name x p) (e :: es) [] pos) (tMakeS C sp E t) := by
  refine ⟨fun pins s σ H Q I h => wpAny_Call_Name_kw (ld_glob I hg hm ?_ hdb)⟩
  exact PySem.W.callWith_K (h₀ := X.base) I.ok.mod.kin M.kp (thn (ha.run pos pins s σ H _ I h) fun us s1 ⟨vs, H1, I1, r, q⟩ => ⟨I1.kIn, run_makeS M F hr hb (hx σ) I1 r q⟩) he hpl
theorem pe_methX {pl : Sem Bool} (he : PE X o ta) (c : Cls X.K C) (hm : Meth X.K C m f) (F : FnOk X.prog X.w X.K X.mg X.base CX k f fd ps sp) (hr : Room k X.A) (hb : Binds X.K fd ps []) (hx : ∀ σ, PassesAt CX X σ (E σ)) (ha : PA X (e :: es) t)
    (hst : starEach (e :: es) X.env = (false, eval e X.env) :: starEach es X.env := by rfl) (hpl : (backTo pos (starEach es X.env)).any (·.1) = false := by rfl)
    (ht : eval (.Call (.Attribute o m apos) (e :: es) [] pos) X.env = (do
      let ov ← eval o X.env
      standAt apos.atName
      let (f, first) ← holding [ov] (getMethod ov m pl)
      callWith pos f first (backTo pos (starEach (e :: es) X.env)) (backToKw pos (keywordEach [] X.env))) := by rfl) :
    PE X (.Call (.Attribute o m apos) (e :: es) [] pos) (tMethQ C m sp E ta t) := by
  refine ⟨fun pins s σ H Q I h => PySem.W.methodCall_KW (pl := pl) (thn (he.run pins s σ H _ I h) fun u s1 ⟨x, H1, I1, rx, a, dx, fs, ex, ea, l, q⟩ => ?_) ht⟩
  subst ex
  obtain rfl : u = Value.ref a := rx
  refine getmeth_ok I1 ea c hm l (PySem.W.callWith_K (first := [.ref a]) (h₀ := X.base) I.ok.mod.kin hm.kp (thn (ha.run pos pins s1 σ H1 _ I1 q) fun us s2 ⟨vs, H2, I2, r, q2⟩ => ⟨I2.kIn, ?_⟩) hst hpl)
  exact run_fnS (us := .ref a :: us) (vs := .ref a :: vs) F hr hb (hx σ) I2 (.cons rfl r) q2
theorem pe_methX0 {pl : Sem Bool} (he : PE X o ta) (c : Cls X.K C) (hm : Meth X.K C m f) (F : FnOk X.prog X.w X.K X.mg X.base CX k f fd ps sp) (hr : Room k X.A) (hb : Binds X.K fd ps []) (hx : ∀ σ, PassesAt CX X σ (E σ))
    (ht : eval (.Call (.Attribute o m apos) [] [] pos) X.env = (do
      let ov ← eval o X.env
      standAt apos.atName
      let (f, first) ← holding [ov] (getMethod ov m pl)
      callWith pos f first (backTo pos (starEach [] X.env)) (backToKw pos (keywordEach [] X.env))) := by rfl) :
    PE X (.Call (.Attribute o m apos) [] [] pos) (tMethQ C m sp E ta tNil) := by
  refine ⟨fun pins s σ H Q I h => PySem.W.methodCall_KW (pl := pl) (thn (he.run pins s σ H _ I h) fun u s1 ⟨x, H1, I1, rx, a, dx, fs, ex, ea, l, q⟩ => ?_) ht⟩
  subst ex
  obtain rfl : u = Value.ref a := rx
  exact getmeth_ok I1 ea c hm l (PySem.W.callWith_K0 (first := [.ref a]) I1.kIn hm.kp (run_fnS (us := [.ref a]) (vs := [.ref a]) F hr hb (hx σ) I1 (.cons rfl .nil) q))
end
/-! ### raise -/
/-- an error's __init__: the arguments ws become the fields fs in a new dict -/
def spIx (C : Addr) (G : List V → List (Str × V) → Prop) : Sp := fun vs H Q _ => ∃ a ws fs, vs = .ref a :: ws ∧ ws.length ≤ 1000 ∧ G ws fs ∧ H a = some (exo a C none) ∧
  ∀ H' d, SameB a H H' → H d = none → d ≠ a → H' a = some (exo a C (some d)) → H' d = some (exd d fs) → Q .non H'
def tRaise (C : Addr) (G : List V → List (Str × V) → Prop) (W : WX) (ta : TA) : TS := fun _ σ H => ta σ H fun vs H1 => ∃ fs, vs.length ≤ 1000 ∧ G vs fs ∧
  ∀ H' d, Same H1 H' → H1 d = none → H' d = some (.xd fs) → W (.ref C) (some d) σ H'
section
variable {X : Cx} {CX : CXT} {W : WX} {k : Nat} {fI C : Addr} {fd : FuncData} {ps : List Str} {G : List V → List (Str × V) → Prop} {x : Str} {p pos pos' : Pos} {e : Expr} {es : List Expr} {ta : TA}
theorem ps_raiseX (hc : X.calm = true) (tk : Takes X W) (T : OxF X.K C fI) (F1 : FnOk X.prog X.w X.K X.mg X.base CX k fI fd ps (spIx C G)) (hr : Room (k + 1) X.A) (hb : Binds X.K fd ps []) (hx : Passes CX X (fun _ _ _ => False)) (hg : Gl X x) (hm : X.mg x = some (.ref C))
    (ha : PA X (e :: es) ta) (hdb : (x == ("__debug__" : Str)) = false := by decide) (he : starEach (e :: es) X.env = (false, eval e X.env) :: starEach es X.env := by rfl) (hpl : (backTo pos (starEach es X.env)).any (·.1) = false := by rfl) :
    PS X (.Raise (some (.Call (.Name x p) (e :: es) [] pos)) none pos') (tRaise C G W ta) :=
  (ps_raise hc tk (pmk_oex T.oex T.ini (beq_iff_eq.mp T.fn) F1 hr hb .nil hx hg hm ha.mon hdb he hpl)).weak fun D σ H h => by
    refine ⟨_, h, fun vs H1 ⟨fs, hl, g, q⟩ => ⟨hl, fun a ha1 => ?_⟩⟩
    rw [List.append_nil]
    refine ⟨a, vs, fs, rfl, hl, g, upd_same, fun H2 d sb hd hda e1 e2 => ⟨rfl, d, fs, e1, e2, upd_none hd, q _ d (fun b o hb => ?_) (upd_none hd) upd_same⟩⟩
    have hba : b ≠ a := ne_of_none hb ha1
    have hbd : b ≠ d := ne_of_none hb (upd_none hd)
    rw [upd_ne hbd, del_ne hba]
    exact sb b o hba (upd_new hb ha1)
end
/-! ### the caught error -/
/-- in X the error at a is pinned: of the class cls, with the dict at d -/
def Caught (X : Cx) (a : Addr) (cls : Value) (d : Option Addr) : Prop := ∃ oe, (a, oe) ∈ X.pn ∧ Zc cls d oe ∧ ∃ vs, oe.data = .fields vs
theorem caught_suite {X : Cx} {a : Addr} {oe : Obj} {cls : Value} {d : Option Addr} {pn : List (Addr × Obj)} (hz : Zc cls d oe) (hf : ∃ vs, oe.data = .fields vs) : Caught (X.suite a ((a, oe) :: pn)) a cls d := ⟨oe, List.mem_cons_self, hz, hf⟩
/-- what the text says of an error class, for isinstance and the fields -/
structure XcC (K : PySem.W.Frag) (C : Addr) : Prop where
  hg : PySem.W.findIn K (.ref C) "__getattribute__" = some (some (.builtin "BaseException.__getattribute__"))
  hk : PySem.W.findIn K (.ref C) "__getattr__" = some none
  ex : PySem.W.subIn K (.ref C) (.type "BaseException") = some true
  hd : PySem.W.hasDictIn K C = true
  ha : PySem.W.findIn K (.ref C) "__class__" = some (some (.builtin "object.__class__"))
  hn : PySem.W.specialIn K (.builtin "object.__class__") "__get__" = some (some (.builtin "getset_descriptor.__get__"))
  tk : PySem.W.takesIn K (.builtin "object.__class__") = some true
  hm : PySem.W.mroIn K C (.type "object") = some true
theorem OxF.xc {K : PySem.W.Frag} {C fI : Addr} (o : OxF K C fI) : XcC K C := ⟨o.hg, o.hk, o.oex.exC, o.hd, o.ha, o.hn, o.tk, o.hm⟩
def DictAt (H : Hp) (d : Option Addr) (fs : List (Str × V)) : Prop := match d with | none => fs = [] | some dd => H dd = some (.xd fs)
section
variable {X : Cx} {pins : List (Addr × Obj)} {σ : St} {H : Hp} {s : Shared} {a C : Addr} {d : Option Addr} {fs : List (Str × V)}
theorem Caught.inst (c : Caught X a (.ref C) d) (I : Inv X pins σ H s) (h : DictAt H d fs) :
    ∃ ox od, PySem.W.InstAt s.heap a ox C od ∧ ∀ f v, fs.lookup f = some v → ∃ o u, od = some o ∧ PySem.W.lookIn f o = some (some u) ∧ RelV v u := by
  obtain ⟨oe, hp, hz, vs, hv⟩ := c
  have g := (I.pin (a, oe) (List.mem_append_left _ hp)).1
  have nc : PySem.W.notCls oe = true := by unfold PySem.W.notCls; rw [hv] <;> rfl
  cases d with
  | none =>
    subst h
    exact ⟨oe, none, ⟨g, hz.1, nc, by rw [hz.2]; trivial⟩, fun f v e => by cases e⟩
  | some dd =>
    have hx : ObjOk X.prog X.w H s.heap dd (.xd fs) := I.hok dd _ h
    obtain ⟨mA, hns, hr⟩ := hx
    obtain ⟨od, ho, hl⟩ := lookIn_ns hns
    refine ⟨oe, some od, ⟨g, hz.1, nc, by rw [hz.2]; exact ho⟩, fun f v e => ?_⟩
    obtain ⟨u, hu, ru⟩ := RelO.some_of (v := v) (o := mA f) (by rw [← e]; exact hr f)
    exact ⟨od, u, rfl, by rw [hl, hu], ru⟩
end
/-- isinstance(err, c), isinstance(err, (c, ..)) -/
def rIsQ (K : PySem.W.Frag) (a : Addr) (cls : Value) (d : Option Addr) : List V → Hp → VK → Prop := fun xs H Q => match xs with
  | [.ref b, .ref D] => ∃ C fs r, b = a ∧ cls = .ref C ∧ XcC K C ∧ DictAt H d fs ∧
      ((PySem.W.kitOne K (.ref C) (.ref D) = some r ∧ Q (.bl r) H) ∨ ∃ cs : List Addr, H D = some (.tup (cs.map V.ref)) ∧ PySem.W.kitAny K (.ref C) (cs.map Value.ref) = some r ∧ Q (.bl r) H)
  | _ => False
theorem vals_refs : ∀ {cs : List Addr} {us : List Value}, Vals (cs.map V.ref) us → us = cs.map Value.ref
  | [], _, .nil => rfl
  | c :: cs, _, .cons (b := u) r t => by
    obtain rfl : u = Value.ref c := r
    rw [vals_refs t]; rfl
section
variable {X : Cx} {a : Addr} {cls : Value} {d : Option Addr} {e : Expr} {te : TE} {pos : Pos} {f : Str}
theorem cc_isQ {K : PySem.W.Frag} (c : Caught X a cls d) (hK : X.K = K := by rfl) : CallR X (.builtin "isinstance") (rIsQ K a cls d) := by
  subst hK
  intro pins s σ H xs us Q I r h
  unfold rIsQ at h
  split at h
  · rename_i b D
    obtain ⟨C, fs, rb, rfl, rfl, T, hd, h⟩ := h
    obtain ⟨u1, u2, rfl, r1, r2⟩ := vals2 r
    cases (show u1 = Value.ref _ from r1)
    cases (show u2 = Value.ref _ from r2)
    obtain ⟨ox, od, J, _⟩ := c.inst I hd
    rcases h with ⟨e, q⟩ | ⟨cs, hT, e, q⟩
    · exact PySem.W.kia_one (PySem.W.kitx_excO T.hg T.hk T.ex T.hd T.ha T.hn T.tk T.hm) I.kIn J e (fun z => nomatch z) fun tk => ⟨.bl rb, H, I.tok tk, rfl, q⟩
    · obtain ⟨_, its, rv, o, h1, h2, n, h3⟩ := (show ObjOk X.prog X.w H s.heap D (.tup (cs.map V.ref)) from I.hok D _ hT)
      have e3 := vals_refs rv
      subst e3
      obtain ⟨oc, od', dt, sl⟩ := o
      simp only at h2 h3
      subst h2 h3
      exact PySem.W.kia_tup (PySem.W.kitx_excO T.hg T.hk T.ex T.hd T.ha T.hn T.tk T.hm) I.kIn J h1 e (fun z => nomatch z) fun tk => ⟨.bl rb, H, I.tok tk, rfl, q⟩
  · exact h.elim
/-- err.f -/
def tFldQ (K : PySem.W.Frag) (a : Addr) (cls : Value) (d : Option Addr) (te : TE) (f : Str) : TE := fun σ H Q => te σ H fun x H1 => ∃ C fs v, x = .ref a ∧ cls = .ref C ∧ XcC K C ∧ PySem.W.findIn K (.ref C) f = some none ∧ DictAt H1 d fs ∧ fs.lookup f = some v ∧ Q v H1
theorem ce_fldQ {K : PySem.W.Frag} (c : Caught X a cls d) (he : PE X e te) (hb : attributeBase e f X.env (eval e X.env) = eval e X.env) (hK : X.K = K := by rfl) : PE X (.Attribute e f pos) (tFldQ K a cls d te f) := by
  subst hK
  refine ⟨fun pins s σ H Q I h => attr_of hb (thn (he.run pins s σ H _ I h) fun u s1 ⟨x, H1, I1, rx, C, fs, v, ex, ec, T, hno, hd, l, q⟩ => ?_)⟩
  subst ex
  obtain rfl : u = Value.ref a := rx
  subst ec
  obtain ⟨ox, od, J, k⟩ := c.inst I1 hd
  obtain ⟨o, u, rfl, hl, ru⟩ := k f v l
  exact HandSPX.exc_get I1.kIn J T.hg T.hk T.ex (PySem.W.findObj_own T.hd hno rfl hl) (handed_of ru) ⟨v, H1, I1.tok _, ru, q⟩
end
end L2

/-! A def called in an except suite with the caught error: it knows the error's class and dict. -/
namespace L2
open PySem PySem.Spec PyProof.Rows L2H
theorem Room.marked {k : Nat} {A : Around} {h : Option Value} (r : Room k A) : RoomH k (A.mark h) := ⟨r.dp, r.un⟩
structure FnE (P : Program) (w : World) (K : PySem.W.Frag) (mg : Str → Option Value) (base : Heap) (k : Nat) (f : Addr) (fd : FuncData) (ps : List Str) (sp : Addr → Value → Option Addr → Sp) : Prop where
  len : ∀ a c d vs H Q E, sp a c d vs H Q E → vs.length = ps.length
  run : ∀ (A : Around) (outer : List Env) (s : Shared) (H : Hp) (args : Args) (us : List Value) (vs : List V) (Q : VK) (p : Addr × Obj) (c : Value) (d : Option Addr), RoomH k A → PinOk outer H s p → Zc c d p.2 → (∃ ws, p.2.data = .fields ws) → Env0 P w K mg base A outer s H →
    BindsTo s fd args (ps.zip us) → Vals vs us → sp p.1 c d vs H Q E0 → codeAny (model P w) A (.call (.ref f) args) (CR CX0 outer P w H s Q E0) s
section
variable {P : Program} {w : World} {K : PySem.W.Frag} {mg : Str → Option Value} {base : Heap}
theorem Fun.okE {x qual : Str} {st : Stmt} {f : Addr} {fd : FuncData} {N ps : List Str} {k : Nat} {sp : Addr → Value → Option Addr → Sp} (F : Fun K x qual st f fd) (S : FnScope N ps (defScope st)) (len : ∀ a c d vs H Q E, sp a c d vs H Q E → vs.length = ps.length)
    (hbody : ∀ (cdv : Value) (A : Around) (outer : List Env) (s : Shared) (H : Hp) (vs : List V) (Q : VK) (p : Addr × Obj) (c : Value) (d : Option Addr), Caught (cxH CX0 P w K mg base N qual (defScope st) f cdv A outer s H E0 p) p.1 c d → RoomH k (A.deeper (envOfC qual (defScope st) s.heap.objs.size f cdv)) → sp p.1 c d vs H Q E0 →
      ∃ t, PSs (cxH CX0 P w K mg base N qual (defScope st) f cdv A outer s H E0 p) (defBody st) t ∧ t { nx := fun _ H' => Q .non H', rt := Q } (L2.start N vs) H) : FnE P w K mg base (k + 1) f fd ps sp := by
  obtain ⟨oc, od, kV, doc, pm, an, cdv, ct, osl, rfl, lk, hcd⟩ := F.ex
  refine ⟨len, fun A outer s H args us vs Q p c d hr hpin hz hf e0 hb r hsp => ?_⟩
  have hl := len _ _ _ _ _ _ _ hsp
  have kb : ∀ b o, base.get? b = some o → s.heap.get? b = some o := fun b o e => (e0.bs b o e).1
  have KX : K.In s.heap := e0.mod.kin.keeps kb
  have lim : s.heap.NoLimit := e0.mod.nolimit.keeps kb
  have hk : ∀ y ∈ ps.zip us, (defScope st).names.lookup y.1 = some .local ∨ ((defScope st).names.lookup y.1 = some .cell ∧ ((cellsFrom (s.heap.objs.size + 1) (defScope st).names []).lookup y.1).isSome = true) := fun ⟨n, v⟩ hy =>
    (S.par n (List.of_mem_zip hy).1).elim .inl fun q => .inr ⟨q, PySem.W.cellsFrom_some _ _ _ (.inl q)⟩
  refine codeAny_call_function hr.depth (KX _ _ lk) rfl S.co S.gen rfl (PySem.W.codeRec_of KX hcd) (hb _ _ _ _ (wpAny_newFunctionEnv_cells S.kind hk fun env he s1 x => ?_))
  subst he
  refine ⟨lim.keeps x.toInCall.keep, codeAny_func ?_⟩
  obtain ⟨t, ht, hq⟩ := hbody cdv A outer s H vs Q p c d ⟨p.2, by show p ∈ [p]; simp, hz, hf⟩ (hr.deeper _) hsp
  have I := inv_startH (CX := CX0) (E := E0) S hpin e0 hl r x
  refine wpAny_mono (ht.run [] s1 (L2.start N vs) H _ I hq) (fun fl s' hs => ?_) fun e s' hs => hs
  cases fl with
  | ret u =>
    obtain ⟨v, σ', H', J, rv, q⟩ := hs
    exact ⟨v, H', J.os, J.bare, J.base, J.hok, rv, q⟩
  | next =>
    obtain ⟨σ', H', J, q⟩ := hs
    exact ⟨V.non, H', J.os, J.bare, J.base, J.hok, rfl, q⟩
  | brk => obtain ⟨_, _, _, q⟩ := hs; exact q.elim
  | cont => obtain ⟨_, _, _, q⟩ := hs; exact q.elim
end
def tCallE (sp : Addr → Value → Option Addr → Sp) (a : Addr) (cls : Value) (d : Option Addr) (t : TA) : TE := fun σ H Q => t σ H fun vs H1 => sp a cls d vs H1 Q E0
section
variable {X : Cx} {k : Nat} {f a : Addr} {cls : Value} {d : Option Addr} {fd : FuncData} {ps : List Str} {sp : Addr → Value → Option Addr → Sp} {x : Str} {p pos : Pos} {e : Expr} {es : List Expr} {t : TA}
theorem pe_callE (c : Caught X a cls d) (F : FnE X.prog X.w X.K X.mg X.base k f fd ps sp) (hr : RoomH k X.A) (hg : Gl X x) (hm : X.mg x = some (.ref f)) (hk : PySem.W.keepIn X.K (.ref f) = true) (hb : Binds X.K fd ps [])
    (ha : PA X (e :: es) t) (hdb : (x == ("__debug__" : Str)) = false := by decide) (he : starEach (e :: es) X.env = (false, eval e X.env) :: starEach es X.env := by rfl) (hpl : (backTo pos (starEach es X.env)).any (·.1) = false := by rfl) :
    PE X (.Call (.Name x p) (e :: es) [] pos) (tCallE sp a cls d t) := by
  refine ⟨fun pins s σ H Q I h => wpAny_Call_Name_kw (ld_glob I hg hm ?_ hdb)⟩
  refine PySem.W.callWith_K (h₀ := X.base) I.ok.mod.kin hk (thn (ha.run pos pins s σ H _ I h) fun us s1 ⟨vs, H1, I1, r, q⟩ => ⟨I1.kIn, ?_⟩) he hpl
  obtain ⟨oe, hp, hz, hf⟩ := c
  have hl : us.length = ps.length := by rw [← r.length]; exact F.len _ _ _ _ _ _ _ q
  have b := hb s1 us I1.kIn (by rw [List.append_nil]; exact hl)
  rw [List.append_nil] at b
  have P1 := I1.pin (a, oe) (List.mem_append_left _ hp)
  have hpin : PinOk X.stack H1 s1 (a, oe) := ⟨P1.1, P1.2.1, fun z => (List.mem_cons.mp (I1.stkSub a z)).elim P1.2.2.1 P1.2.2.2.1, P1.2.2.2.2⟩
  refine wpAny_call (codeAny_mono (F.run X.A X.stack s1 H1 ⟨us, []⟩ us vs Q (a, oe) cls d hr hpin hz hf I1.env0 b r q) fun res s' z => ?_)
  cases res with
  | error er => exact (show False from z).elim
  | ok fl =>
    cases fl with
    | ret u => exact I1.after z
    | next => exact z.elim
    | brk => exact z.elim
    | cont => exact z.elim
end
end L2

/-! Comprehensions whose turns only make objects: what each turn gave is told by R, which stays true as the heap grows. -/
namespace L2
open PySem PySem.Spec PyProof.Rows
theorem same_del {H H' : Hp} {D : Addr} (h : ∀ b o, b ≠ D → H b = some o → H' b = some o) : Same (del H D) (del H' D) := fun b o e => by
  by_cases z : b = D
  · subst z; rw [del_same] at e; cases e
  · rw [del_ne z] at e ⊢; exact h b o z e
theorem del_sub {H : Hp} {D : Addr} : Same (del H D) H := fun b o e => by
  by_cases z : b = D
  · subst z; rw [del_same] at e; cases e
  · rw [del_ne z] at e; exact e
theorem same_into {H H' : Hp} {D : Addr} (h : Same H H') (hD : H D = none) : Same H (del H' D) := fun b o e => by
  rw [del_ne (ne_of_none e hD)]; exact h b o e
section
variable {J : It} {n : Nat} {G : Hp → Prop} {Y : Nat → Hp → V → Hp → Prop}
theorem lc_opt (w : Walk J n G Y) {g : TG} {tt : TT} {te : TE} {vs : List Nat} {σ : St} {H1 : Hp} {D : Addr} {Qd : Hp → Prop} (R : Nat → Option V → Hp → Prop) (hR : ∀ i o H H', Same H H' → R i o H → R i o H') (hD : H1 D = none) (hn : n ≤ 16000000)
    (hG : ∀ H, Same H1 H → G H)
    (hs : ∀ i x H H' (Nx : V → Hp → Prop) (Nz : Hp → Prop), i < n → Same H1 H → Y i H x H' → (∀ y H4, Same H H4 → R i (some y) (del H4 D) → Nx y H4) → (∀ H4, Same H H4 → R i none (del H4 D) → Nz H4) →
      g x (wipe σ vs) H' fun σ2 H2 => wipe σ2 vs = wipe σ vs ∧ tt σ2 H2 fun b H3 => if b = true then te σ2 H3 Nx else Nz H3)
    (hd : ∀ H (os : List (Option V)), os.length = n → (∀ i o, os[i]? = some o → R i o H) → Same H1 H → H D = some (.lst (os.filterMap id)) → Qd H) :
    ∃ W : Nat → Nat → Hp → Prop, (∃ m, W 0 m (upd H1 D (.lst []))) ∧ ∀ i m H, W i m H →
      (J.stop i H ∧ Qd H) ∨ (J.go i H ∧ ∃ Nx : Hp → Prop, (∀ H', Nx H' → ∃ m', m' < m ∧ W (i + 1) m' H') ∧ ∀ x H', J.yld i H x H' → g x (wipe σ vs) H' fun σ2 H2 => wipe σ2 vs = wipe σ vs ∧ tt σ2 H2 fun b H3 =>
        if b = true then te σ2 H3 fun y H4 => ∃ acc, H4 D = some (.lst acc) ∧ acc.length < sizeLine ∧ Nx (upd H4 D (.lst (acc ++ [y]))) else Nx H3) := by
  refine lc_it w (fun i H => Same H1 H ∧ ∃ os : List (Option V), os.length = i ∧ H D = some (.lst (os.filterMap id)) ∧ ∀ j o, os[j]? = some o → R j o (del H D)) ⟨Same.new hD, [], rfl, upd_same, fun j o e => by simp at e⟩ (fun i H _ p => hG H p.1) ?_ ?_
  · rintro i x H H' hi ⟨s1, os, hl, hD1, r⟩ y
    have old : ∀ H4, Same H H4 → ∀ acc : HO, ∀ j o, os[j]? = some o → R j o (del (upd H4 D acc) D) := fun H4 s4 acc j o e => hR j o _ _ (same_del fun b u nb hb => by rw [upd_ne nb]; exact s4 b u hb) (r j o e)
    refine hs i x H H' _ _ hi s1 y (fun y H4 s4 ry => ⟨os.filterMap id, s4 _ _ hD1, ?_, (s1.trans s4).wr hD, os ++ [some y], by simp [hl], ?_, fun j o e => ?_⟩) (fun H4 s4 ry => ⟨s1.trans s4, os ++ [none], by simp [hl], ?_, fun j o e => ?_⟩)
    · have := List.length_filterMap_le id os; rw [sizeLine_eq]; omega
    · rw [upd_same, List.filterMap_append]; rfl
    · by_cases hj : j < os.length
      · rw [List.getElem?_append_left hj] at e; exact old H4 s4 _ j o e
      · have hj2 : j = i := by
          have := (List.getElem?_eq_some_iff.mp e).1
          rw [List.length_append, List.length_cons, List.length_nil] at this; omega
        rw [List.getElem?_append_right (by omega), hj2, hl, Nat.sub_self] at e
        cases (Option.some.inj e : some y = o)
        rw [hj2]
        exact hR i _ _ _ (same_del fun b u nb hb => by rw [upd_ne nb]; exact hb) ry
    · rw [s4 _ _ hD1, List.filterMap_append]; simp
    · by_cases hj : j < os.length
      · rw [List.getElem?_append_left hj] at e; exact hR j o _ _ (same_del fun b u nb hb => s4 b u hb) (r j o e)
      · have hj2 : j = i := by
          have := (List.getElem?_eq_some_iff.mp e).1
          rw [List.length_append, List.length_cons, List.length_nil] at this; omega
        rw [List.getElem?_append_right (by omega), hj2, hl, Nat.sub_self] at e
        cases (Option.some.inj e : none = o)
        rw [hj2]
        exact ry
  · rintro H ⟨s1, os, hl, hD1, r⟩
    exact hd H os hl (fun i o e => hR i o _ _ del_sub (r i o e)) s1 hD1
theorem lc_map (w : Walk J n G Y) {g : TG} {tt : TT} {te : TE} {vs : List Nat} {σ : St} {H1 : Hp} {D : Addr} {Qd : Hp → Prop} (R : Nat → V → Hp → Prop) (hR : ∀ i o H H', Same H H' → R i o H → R i o H') (hD : H1 D = none) (hn : n ≤ 16000000)
    (hG : ∀ H, Same H1 H → G H)
    (hs : ∀ i x H H' (Nx : V → Hp → Prop) (Nz : Hp → Prop), i < n → Same H1 H → Y i H x H' → (∀ y H4, Same H H4 → R i y (del H4 D) → Nx y H4) →
      g x (wipe σ vs) H' fun σ2 H2 => wipe σ2 vs = wipe σ vs ∧ tt σ2 H2 fun b H3 => if b = true then te σ2 H3 Nx else Nz H3)
    (hd : ∀ H (ys : List V), ys.length = n → (∀ i y, ys[i]? = some y → R i y H) → Same H1 H → H D = some (.lst ys) → Qd H) :
    ∃ W : Nat → Nat → Hp → Prop, (∃ m, W 0 m (upd H1 D (.lst []))) ∧ ∀ i m H, W i m H →
      (J.stop i H ∧ Qd H) ∨ (J.go i H ∧ ∃ Nx : Hp → Prop, (∀ H', Nx H' → ∃ m', m' < m ∧ W (i + 1) m' H') ∧ ∀ x H', J.yld i H x H' → g x (wipe σ vs) H' fun σ2 H2 => wipe σ2 vs = wipe σ vs ∧ tt σ2 H2 fun b H3 =>
        if b = true then te σ2 H3 fun y H4 => ∃ acc, H4 D = some (.lst acc) ∧ acc.length < sizeLine ∧ Nx (upd H4 D (.lst (acc ++ [y]))) else Nx H3) := by
  refine lc_opt w (fun i o H => ∃ y, o = some y ∧ R i y H) (fun i o H H' e ⟨y, h1, h2⟩ => ⟨y, h1, hR i y H H' e h2⟩) hD hn hG (fun i x H H' Nx Nz hi s1 y h1 h2 => hs i x H H' Nx Nz hi s1 y fun y H4 s4 r => h1 y H4 s4 ⟨y, rfl, r⟩) ?_
  intro H os hl r s1 hd1
  have key : ∀ l : List (Option V), (∀ o ∈ l, ∃ y, o = some y) → (l.filterMap id).length = l.length ∧ ∀ i : Nat, (l.filterMap id)[i]? = (l[i]?).bind id := by
    intro l
    induction l with
    | nil => intro _; exact ⟨rfl, fun i => by simp⟩
    | cons a l ih =>
      intro h
      obtain ⟨y, rfl⟩ := h a List.mem_cons_self
      obtain ⟨h1, h2⟩ := ih fun o ho => h o (List.mem_cons_of_mem _ ho)
      refine ⟨by simp [h1], fun i => ?_⟩
      cases i with
      | zero => rfl
      | succ i => simpa using h2 i
  obtain ⟨k1, k2⟩ := key os fun o ho => by
    obtain ⟨i, hi, e⟩ := List.getElem_of_mem ho
    obtain ⟨y, h, _⟩ := r i o (by rw [List.getElem?_eq_getElem hi, e])
    exact ⟨y, h⟩
  refine hd H (os.filterMap id) (by rw [k1, hl]) (fun i y e => ?_) s1 hd1
  rw [k2] at e
  cases ho : os[i]? with
  | none => rw [ho] at e; cases e
  | some o =>
    obtain ⟨z, rfl, hz⟩ := r i o ho
    rw [ho] at e
    cases (Option.some.inj e : z = y)
    exact hz
end
/-- the values are those of f -/
theorem list_of {α : Type} {ys : List α} {n : Nat} {f : Nat → α} (hl : ys.length = n) (h : ∀ i y, ys[i]? = some y → y = f i) : ys = (List.range n).map f := by
  apply List.ext_getElem?
  intro i
  rw [List.getElem?_map]
  by_cases hi : i < n
  · have e : ys[i]? = some (ys[i]'(by omega)) := List.getElem?_eq_getElem (by omega)
    rw [e, h i _ e, List.getElem?_range hi]; rfl
  · rw [List.getElem?_eq_none (by omega), List.getElem?_eq_none (by simp; omega)]; rfl
theorem list_of_map {α β : Type} {ys : List β} {xs : List α} {f : α → β} (hl : ys.length = xs.length) (h : ∀ (i : Nat) (y : β) (x : α), ys[i]? = some y → xs[i]? = some x → y = f x) : ys = xs.map f := by
  apply List.ext_getElem?
  intro i
  rw [List.getElem?_map]
  by_cases hi : i < xs.length
  · have e : ys[i]? = some (ys[i]'(by omega)) := List.getElem?_eq_getElem (by omega)
    have e2 : xs[i]? = some xs[i] := List.getElem?_eq_getElem hi
    rw [e, e2, h i _ _ e e2]; rfl
  · rw [List.getElem?_eq_none (by omega), List.getElem?_eq_none (by omega)]; rfl
end L2

/-! x in y, x not in y: a sign in a text, a flat value in a list or tuple. -/
namespace L2
open PySem PySem.Spec PyProof.Rows
theorem bne_f (b : Bool) : (false != b) = b := by cases b <;> rfl
theorem bne_t (b : Bool) : (true != b) = !b := by cases b <;> rfl
def rInC (K : PySem.W.Frag) (neg : Bool) : R2 := fun x y H Q => match y with
  | .str z => ∃ c : Nat, x = .str ⟨#[c]⟩ ∧ Q (.bl (neg != decide (c ∈ z.cps.toList))) H
  | .ref p => ∃ xs, (SqL K H p xs ∨ SqT K H p xs) ∧ flatV x = true ∧ xs.all flatV = true ∧ Q (.bl (neg != inV x xs)) H
  | _ => False
section
variable {X : Cx}
theorem oc_in {K : PySem.W.Frag} (hK : X.K = K := by rfl) : OpR X (compareOp .In) (rInC K false) := hK ▸ (op_in_sign.or op_in_seq).weak fun x y H Q h => by
  cases y <;> first | exact False.elim h | skip
  · obtain ⟨c, h1, h2⟩ := h; exact .inl ⟨c, _, h1, rfl, by simpa using h2⟩
  · obtain ⟨xs, h1, h2, h3, h4⟩ := h; exact .inr ⟨_, xs, rfl, h1, h2, h3, by simpa using h4⟩
theorem oc_notIn {K : PySem.W.Frag} (hK : X.K = K := by rfl) : OpR X (compareOp .NotIn) (rInC K true) := hK ▸ (op_notIn_sign.or op_notIn_seq).weak fun x y H Q h => by
  cases y <;> first | exact False.elim h | skip
  · obtain ⟨c, h1, h2⟩ := h; exact .inl ⟨c, _, h1, rfl, by simpa using h2⟩
  · obtain ⟨xs, h1, h2, h3, h4⟩ := h; exact .inr ⟨_, xs, rfl, h1, h2, h3, by simpa using h4⟩
theorem pe_globE {x : Str} {v : V} {pos : Pos} (hg : Gl X x) (h : ∃ u, X.mg x = some u ∧ RelV v u) (hdb : (x == ("__debug__" : Str)) = false := by decide) : PE X (.Name x pos) (fun _ H Q => Q v H) := by
  obtain ⟨u, h1, h2⟩ := h
  exact pe_glob hg h1 h2 hdb
end
section
variable {J : It} {n : Nat} {G : Hp → Prop} {Y : Nat → Hp → V → Hp → Prop}
/-- a comprehension without ifs that gives f i at turn i -/
theorem lc_fun (w : Walk J n G Y) {g : TG} {tt : TT} {te : TE} {vs : List Nat} {σ : St} {H1 : Hp} {D : Addr} {Qd : Hp → Prop} (f : Nat → V) (hD : H1 D = none) (hn : n ≤ 16000000)
    (hG : ∀ H, Same H1 H → G H)
    (hs : ∀ i x H H' (Nx : V → Hp → Prop) (Nz : Hp → Prop), i < n → Same H1 H → Y i H x H' → (∀ H4, Same H H4 → Nx (f i) H4) →
      g x (wipe σ vs) H' fun σ2 H2 => wipe σ2 vs = wipe σ vs ∧ tt σ2 H2 fun b H3 => if b = true then te σ2 H3 Nx else Nz H3)
    (hd : ∀ H, Same H1 H → H D = some (.lst ((List.range n).map f)) → Qd H) :
    ∃ W : Nat → Nat → Hp → Prop, (∃ m, W 0 m (upd H1 D (.lst []))) ∧ ∀ i m H, W i m H →
      (J.stop i H ∧ Qd H) ∨ (J.go i H ∧ ∃ Nx : Hp → Prop, (∀ H', Nx H' → ∃ m', m' < m ∧ W (i + 1) m' H') ∧ ∀ x H', J.yld i H x H' → g x (wipe σ vs) H' fun σ2 H2 => wipe σ2 vs = wipe σ vs ∧ tt σ2 H2 fun b H3 =>
        if b = true then te σ2 H3 fun y H4 => ∃ acc, H4 D = some (.lst acc) ∧ acc.length < sizeLine ∧ Nx (upd H4 D (.lst (acc ++ [y]))) else Nx H3) :=
  lc_map w (fun i y _ => y = f i) (fun _ _ _ _ _ h => h) hD hn hG (fun i x H H' Nx Nz hi s1 y h1 => hs i x H H' Nx Nz hi s1 y fun H4 s4 => h1 _ _ s4 rfl)
    (fun H ys hl r s1 hd1 => hd H s1 (by rw [hd1, list_of hl r]))
end
end L2

/-! == of tuples of texts, of tuples whose items are flat or tuples of texts: both answers. -/
namespace L2
open PySem PySem.Spec PyProof.Rows
theorem strs_inj {xs ys : List Str} (h : xs.map V.str = ys.map V.str) : xs = ys := by
  induction xs generalizing ys with
  | nil => cases ys with
    | nil => rfl
    | cons y ys => cases h
  | cons x xs ih => cases ys with
    | nil => cases h
    | cons y ys =>
      rw [List.map_cons, List.map_cons] at h
      injection h with h1 h2
      injection h1 with h1
      rw [h1, ih h2]
/-- two tuples of texts -/
def DTs : EqvB := fun x y H b => ∃ a c, ∃ xs ys : List Str, x = .ref a ∧ y = .ref c ∧ H a = some (.tup (xs.map V.str)) ∧ H c = some (.tup (ys.map V.str)) ∧ b = decide (xs = ys)
theorem monB_ts : MonB DTs := fun x y H H' b e ⟨a, c, xs, ys, h1, h2, h3, h4, h5⟩ => ⟨a, c, xs, ys, h1, h2, e _ _ h3, e _ _ h4, h5⟩
theorem all_strs (xs ys : List Str) : ((List.range (min (xs.map V.str).length (ys.map V.str).length)).all (fun i => eqV ((xs.map V.str).getD i .non) ((ys.map V.str).getD i .non)) && (xs.map V.str).length == (ys.map V.str).length) = decide (xs = ys) := by
  by_cases hl : (xs.map V.str).length = (ys.map V.str).length
  · rw [← eqVs_strs, eqVs_all _ _ hl, ← hl, Nat.min_self, beq_self_eq_true, Bool.and_true]
  · rw [beq_false_of_ne hl, Bool.and_false, decide_eq_false]
    intro e; rw [e] at hl; exact hl rfl
section
variable {X : Cx} {n m : Nat} {ne : Bool} {D D' : EqvB}
theorem rcB_ts : RcB X 1 ne DTs := RcB.imp (rcB_tup (X := X) (ne := ne) monB_flat eqB_flat) fun x y H b ⟨a, c, xs, ys, h1, h2, h3, h4, h5⟩ =>
  ⟨a, c, xs.map V.str, ys.map V.str, fun i => eqV ((xs.map V.str).getD i .non) ((ys.map V.str).getD i .non), h1, h2, SqT.of h3, SqT.of h4, fun i x y hx hy => by
    show DFl x y H (eqV ((xs.map V.str).getD i .non) ((ys.map V.str).getD i .non))
    rw [List.getD_eq_getElem?_getD, List.getD_eq_getElem?_getD, hx, hy]
    rw [List.getElem?_map] at hx hy
    obtain ⟨u, _, rfl⟩ := Option.map_eq_some_iff.mp hx
    obtain ⟨v, _, rfl⟩ := Option.map_eq_some_iff.mp hy
    exact ⟨rfl, rfl, rfl⟩, by rw [h5, all_strs]⟩
theorem eqB_ts : EqB X 1 DTs := RcB.eqB rcB_ts fun x y H b ⟨a, c, xs, ys, h1, h2, h3, h4, h5⟩ => ⟨a, c, h1, h2, fun e => by
  subst e
  rw [h3] at h4
  injection h4 with h4
  injection h4 with h4
  rw [h5, strs_inj h4, decide_eq_true rfl]⟩
/-- flat, or tuples of texts -/
def DFt : EqvB := fun x y H b => DFl x y H b ∨ DTs x y H b
theorem monB_ft : MonB DFt := monB_flat.or monB_ts
theorem eqB_ft : EqB X 1 DFt := (eqB_flat.mono (by decide)).or eqB_ts
theorem rcB_ft {K : PySem.W.Frag} (hK : X.K = K := by rfl) : RcB X 2 ne (DTp K DFt) := hK ▸ rcB_tup monB_ft eqB_ft
/-- tuples of a number and two tuples of texts -/
theorem dT3 {K : PySem.W.Frag} {H : Hp} {a c b1 b2 c1 c2 : Addr} {i j : Int} {xs1 xs2 ys1 ys2 : List Str} (ha : SqT K H a [.int i, .ref b1, .ref c1]) (hc : SqT K H c [.int j, .ref b2, .ref c2])
    (h1 : H b1 = some (.tup (xs1.map V.str))) (h2 : H b2 = some (.tup (xs2.map V.str))) (h3 : H c1 = some (.tup (ys1.map V.str))) (h4 : H c2 = some (.tup (ys2.map V.str))) :
    DTp K DFt (.ref a) (.ref c) H (decide (i = j ∧ xs1 = xs2 ∧ ys1 = ys2)) := by
  refine ⟨a, c, _, _, fun k => [decide (i = j), decide (xs1 = xs2), decide (ys1 = ys2)].getD k false, rfl, rfl, ha, hc, ?_, ?_⟩
  · intro k x y hx hy
    match k, hx, hy with
    | 0, hx, hy =>
      cases (Option.some.inj hx : V.int i = x); cases (Option.some.inj hy : V.int j = y)
      exact .inl ⟨rfl, rfl, by show decide (i = j) = (i == j); by_cases h : i = j <;> simp [h]⟩
    | 1, hx, hy =>
      cases (Option.some.inj hx : V.ref b1 = x); cases (Option.some.inj hy : V.ref b2 = y)
      exact .inr ⟨_, _, _, _, rfl, rfl, h1, h2, rfl⟩
    | 2, hx, hy =>
      cases (Option.some.inj hx : V.ref c1 = x); cases (Option.some.inj hy : V.ref c2 = y)
      exact .inr ⟨_, _, _, _, rfl, rfl, h3, h4, rfl⟩
    | k + 3, hx, hy => cases hx
  · show decide (i = j ∧ xs1 = xs2 ∧ ys1 = ys2) = ((decide (i = j) && (decide (xs1 = xs2) && (decide (ys1 = ys2) && true))) && (3 == 3))
    by_cases e1 : i = j <;> by_cases e2 : xs1 = xs2 <;> by_cases e3 : ys1 = ys2 <;> simp [e1, e2, e3]
end
end L2

/-! Tuples that stand in the heap: +, slices, told by what they hold; lists compared with an empty one. -/
namespace L2
open PySem PySem.Spec PyProof.Rows
def rAddT : R2 := fun x y H Q => ∃ a b xs ys, x = .ref a ∧ y = .ref b ∧ H a = some (.tup xs) ∧ H b = some (.tup ys) ∧ xs.length + ys.length ≤ sizeLine ∧ ∀ p H', Same H H' → H' p = some (.tup (xs ++ ys)) → Q (.ref p) H'
def rSlH : V → Option Int → Option Int → Hp → VK → Prop := fun x lo hi H Q => ∃ a xs, x = .ref a ∧ H a = some (.tup xs) ∧ ∀ p H', Same H H' → H' p = some (.tup (cutV xs lo hi)) → Q (.ref p) H'
/-- two lists, one of them empty -/
def rEqE (K : PySem.W.Frag) : R2 := fun x y H Q => ∃ a b xs ys, x = .ref a ∧ y = .ref b ∧ SqL K H a xs ∧ SqL K H b ys ∧ (xs = [] ∨ ys = []) ∧ Q (.bl (xs.length == ys.length)) H
def rNeE (K : PySem.W.Frag) : R2 := fun x y H Q => ∃ a b xs ys, x = .ref a ∧ y = .ref b ∧ SqL K H a xs ∧ SqL K H b ys ∧ (xs = [] ∨ ys = []) ∧ Q (.bl (!(xs.length == ys.length))) H
section
variable {X : Cx}
theorem op_addT : OpR X (binaryOp .Add) rAddT := op_catA.weak fun x y H Q ⟨a, b, xs, ys, hx, hy, ha, hb, hl, q⟩ =>
  ⟨a, b, xs, ys, hx, hy, SqT.of ha, SqT.of hb, hl, fun e => q b H (Same.refl _) (by rw [hb, e]; rfl), fun _ e => q a H (Same.refl _) (by rw [ha, e, List.append_nil]), fun _ _ p hp => q p _ (Same.new hp) upd_same⟩
theorem cutV_whole {xs : List V} {lo hi : Option Int} (h : HT.sIx xs.length 0 lo = 0 ∧ HT.sIx xs.length xs.length hi = xs.length) : cutV xs lo hi = xs := by
  unfold cutV
  rw [h.1, h.2, List.drop_zero, Nat.sub_zero, List.take_length]
theorem sc_T : SlR X rSlH := fun pins s σ H x v vl vu lo hi sl Q I rx h1 h2 h3 h => sl_tupA pins s σ H x v vl vu lo hi sl Q I rx h1 h2 h3 (by
  obtain ⟨a, xs, hx, ha, q⟩ := h
  exact ⟨a, xs, hx, SqT.of ha, fun w => q a H (Same.refl _) (by rw [ha, cutV_whole w]), fun _ p hp => q p _ (Same.new hp) upd_same⟩)
theorem op_eqE (hu : X.A.units < cLine) : OpR X (compareOp .Eq) (rEqE X.K) := by
  intro pins s σ H x y v u Q I rx ry h
  obtain ⟨a, b, xs, ys, rfl, rfl, h1, h2, he, q⟩ := h
  by_cases hl : xs.length = ys.length
  · have e1 : xs = [] := by
      rcases he with e | e
      · exact e
      · rw [e] at hl; exact List.length_eq_zero_iff.mp hl
    have e2 : ys = [] := by rw [e1] at hl; exact List.length_eq_zero_iff.mp hl.symm
    subst e1 e2
    exact op_eqF hu pins s σ H _ _ v u Q I rx ry ⟨a, b, [], [], rfl, rfl, .inl ⟨h1, h2⟩, rfl, rfl, q⟩
  · cases rx
    cases ry
    show wpAny (model X.prog X.w) X.A (richCompare .Eq _ _) _ _ _
    obtain ⟨its, r1, p1, z1⟩ := I.list h1
    obtain ⟨its2, r2, p2, z2⟩ := I.list h2
    refine SeqAt.RcAt.lists_lengths p1.isList p2.isList ?_ hu _ _ _ _ ⟨.bl (xs.length == ys.length), H, I, ?_, q⟩
    · simp only [List.size_toArray, ← r1.length, ← r2.length]; simpa using hl
    · rw [beq_false_of_ne hl]; rfl
theorem op_neE (hu : X.A.units < cLine) : OpR X (compareOp .NotEq) (rNeE X.K) := by
  intro pins s σ H x y v u Q I rx ry h
  obtain ⟨a, b, xs, ys, rfl, rfl, h1, h2, he, q⟩ := h
  by_cases hl : xs.length = ys.length
  · have e1 : xs = [] := by
      rcases he with e | e
      · exact e
      · rw [e] at hl; exact List.length_eq_zero_iff.mp hl
    have e2 : ys = [] := by rw [e1] at hl; exact List.length_eq_zero_iff.mp hl.symm
    subst e1 e2
    exact op_neF hu pins s σ H _ _ v u Q I rx ry ⟨a, b, [], [], rfl, rfl, .inl ⟨h1, h2⟩, rfl, rfl, q⟩
  · cases rx
    cases ry
    show wpAny (model X.prog X.w) X.A (richCompare .NotEq _ _) _ _ _
    obtain ⟨its, r1, p1, z1⟩ := I.list h1
    obtain ⟨its2, r2, p2, z2⟩ := I.list h2
    refine SeqAt.RcNeAt.lists_lengths p1.isList p2.isList ?_ hu _ _ _ _ ⟨.bl (!(xs.length == ys.length)), H, I, ?_, q⟩
    · simp only [List.size_toArray, ← r1.length, ← r2.length]; simpa using hl
    · rw [beq_false_of_ne hl]; rfl
theorem oc_eqE {K : PySem.W.Frag} (hu : X.A.units + 64 < cLine) (hK : X.K = K := by rfl) : OpR X (compareOp .Eq) (rEqE K) := hK ▸ op_eqE (by omega)
theorem oc_neE {K : PySem.W.Frag} (hu : X.A.units + 64 < cLine) (hK : X.K = K := by rfl) : OpR X (compareOp .NotEq) (rNeE K) := hK ▸ op_neE (by omega)
end
section
variable {J : It} {n : Nat} {G : Hp → Prop} {Y : Nat → Hp → V → Hp → Prop}
/-- a comprehension without ifs whose turns make objects: R tells what a turn gave; it stays true where the new list alone is written -/
theorem lc_obj (w : Walk J n G Y) {g : TG} {tt : TT} {te : TE} {vs : List Nat} {σ : St} {H1 : Hp} {D : Addr} {Qd : Hp → Prop} (R : Nat → V → Hp → Prop) (hR : ∀ i y H H' acc, H D = some (.lst acc) → SameB D H H' → R i y H → R i y H') (hD : H1 D = none) (hn : n ≤ 16000000)
    (hG : ∀ H, Same H1 H → G H)
    (hs : ∀ i x H H' (Nx : V → Hp → Prop) (Nz : Hp → Prop), i < n → Same H1 H → Y i H x H' → (∀ y H4, Same H H4 → R i y H4 → Nx y H4) →
      g x (wipe σ vs) H' fun σ2 H2 => wipe σ2 vs = wipe σ vs ∧ tt σ2 H2 fun b H3 => if b = true then te σ2 H3 Nx else Nz H3)
    (hd : ∀ H (ys : List V), ys.length = n → (∀ i y, ys[i]? = some y → R i y H) → Same H1 H → H D = some (.lst ys) → Qd H) :
    ∃ W : Nat → Nat → Hp → Prop, (∃ m, W 0 m (upd H1 D (.lst []))) ∧ ∀ i m H, W i m H →
      (J.stop i H ∧ Qd H) ∨ (J.go i H ∧ ∃ Nx : Hp → Prop, (∀ H', Nx H' → ∃ m', m' < m ∧ W (i + 1) m' H') ∧ ∀ x H', J.yld i H x H' → g x (wipe σ vs) H' fun σ2 H2 => wipe σ2 vs = wipe σ vs ∧ tt σ2 H2 fun b H3 =>
        if b = true then te σ2 H3 fun y H4 => ∃ acc, H4 D = some (.lst acc) ∧ acc.length < sizeLine ∧ Nx (upd H4 D (.lst (acc ++ [y]))) else Nx H3) := by
  refine lc_it w (fun i H => Same H1 H ∧ ∃ ys : List V, ys.length = i ∧ H D = some (.lst ys) ∧ ∀ j y, ys[j]? = some y → R j y H) ⟨Same.new hD, [], rfl, upd_same, fun j o e => by simp at e⟩ (fun i H _ p => hG H p.1) ?_ ?_
  · rintro i x H H' hi ⟨s1, ys, hl, hD1, r⟩ y
    refine hs i x H H' _ _ hi s1 y fun y H4 s4 ry => ⟨ys, s4 _ _ hD1, by rw [sizeLine_eq]; omega, (s1.trans s4).wr hD, ys ++ [y], by simp [hl], upd_same, fun j o e => ?_⟩
    by_cases hj : j < ys.length
    · rw [List.getElem?_append_left hj] at e
      exact hR j o _ _ _ (s4 _ _ hD1) SameB.at (hR j o _ _ _ hD1 (SameB.of s4) (r j o e))
    · have hj2 : j = i := by
        have := (List.getElem?_eq_some_iff.mp e).1
        rw [List.length_append, List.length_cons, List.length_nil] at this; omega
      rw [List.getElem?_append_right (by omega), hj2, hl, Nat.sub_self] at e
      cases (Option.some.inj e : y = o)
      rw [hj2]
      exact hR i _ _ _ _ (s4 _ _ hD1) SameB.at ry
  · rintro H ⟨s1, ys, hl, hD1, r⟩
    exact hd H ys hl r s1 hD1
end
/-- the addresses of what was made, one for each x of xs -/
theorem objs_of {α : Type} {F : Addr → α → Prop} : ∀ {ys : List V} {xs : List α}, ys.length = xs.length → (∀ (i : Nat) (y : V), ys[i]? = some y → ∃ a x, y = .ref a ∧ xs[i]? = some x ∧ F a x) → ∃ as : List Addr, ys = as.map V.ref ∧ Paired F as xs
  | [], [], _, _ => ⟨[], rfl, .nil⟩
  | [], x :: xs, h, _ => by simp at h
  | y :: ys, [], h, _ => by simp at h
  | y :: ys, x :: xs, h, r => by
    obtain ⟨as, e1, e2⟩ := objs_of (F := F) (ys := ys) (xs := xs) (by simpa using h) fun i y hy => by
      obtain ⟨a, x, h1, h2, h3⟩ := r (i + 1) y (by simpa using hy)
      exact ⟨a, x, h1, by simpa using h2, h3⟩
    obtain ⟨a, x', h1, h2, h3⟩ := r 0 y rfl
    cases (Option.some.inj h2 : x = x')
    exact ⟨a :: as, by rw [List.map_cons, ← e1, h1], .cons h3 e2⟩
/-- a new instance, filled -/
theorem mk_same {H H' : Hp} {x dx : Addr} {o1 o2 : HO} (hx : H x = none) (hd : H dx = none) (e : SameB x (upd (upd H dx o1) x o2) H') : Same H H' := fun b o h =>
  e b o (ne_of_none h hx) (by rw [upd_ne (ne_of_none h hx), upd_ne (ne_of_none h hd)]; exact h)
theorem mkn_same {H : Hp} {x dx : Addr} {o1 o2 : HO} (hx : H x = none) (hd : H dx = none) : Same H (upd (upd H dx o1) x o2) := fun b o h => by rw [upd_ne (ne_of_none h hx), upd_ne (ne_of_none h hd)]; exact h
end L2

/-! Own classes made with starred arguments, by their name or by a local name; classmethods; what is raised is wished for at the slots. len(o) by an own __len__. x in a tuple of own objects. -/
namespace L2
open PySem PySem.Spec PyProof.Rows
theorem Passes.atS {CX : CXT} {X : Cx} {E : XK} (h : Passes CX X E) : ∀ σ, PassesAt CX X σ E := fun σ pins H s e s' I c => h pins σ H s e s' I c
theorem passLS {X : Cx} : ∀ σ, PassesAt (L2.CX X.prog X.w) X σ E0 := passL.atS
def tMkR (C : Addr) (sp : Sp) (E : St → XK) (t : TA) : TE := fun σ H Q => t σ H fun vs H1 => ∀ x dx, H1 x = none → H1 dx = none → dx ≠ x →
  sp (.ref x :: vs) (upd (upd H1 dx (.own x)) x (.ins C dx [])) (fun v H2 => v = .non ∧ Q (.ref x) H2) (E σ)
def tMkL (i : Nat) (C : Addr) (sp : Sp) (E : St → XK) (t : TA) : TE := fun σ H Q => σ[i]? = some (some (.ref C)) ∧ tMkR C sp E t σ H Q
def tCMS (C : Addr) (sp : Sp) (E : St → XK) (ta : TE) (t : TA) : TE := fun σ H Q => ta σ H fun x H1 => x = .ref C ∧ t σ H1 fun vs H2 => sp (.ref C :: vs) H2 Q (E σ)
section
variable {X : Cx} {pins : List (Addr × Obj)} {σ : St} {H : Hp} {s : Shared}
theorem run_fnRS {CX : CXT} {k : Nat} {f : Addr} {sp : Sp} {E : XK} {Q : VK} {us : List Value} {vs : List V} (F : FnR X.prog X.w X.K X.mg X.base CX k f sp) (hr : Room k X.A) (hx : PassesAt CX X σ E) (I : Inv X pins σ H s) (r : Vals vs us) (h : sp vs H Q E) :
    codeAny (model X.prog X.w) X.A (.call (.ref f) ⟨us, []⟩) (fun r s' => match r with | .ok (.ret v) => EP X pins σ Q v s' | .ok _ => False | .error e => X.xe e s') s := by
  refine codeAny_mono (F X.A X.stack s H us vs Q E hr I.env0 r h) fun r s' hq => ?_
  cases r with
  | error e => exact hx pins H s e s' I hq
  | ok fl =>
    cases fl with
    | ret u => exact I.after hq
    | next => exact False.elim hq
    | brk => exact False.elim hq
    | cont => exact False.elim hq
theorem run_mkRS {CX : CXT} {k : Nat} {f C : Addr} {sp : Sp} {E : XK} {Q : VK} {us : List Value} {vs : List V} (M : Mk X.K C f) (F : FnR X.prog X.w X.K X.mg X.base CX k f sp) (hr : Room (k + 1) X.A) (hx : PassesAt CX X σ E) (I : Inv X pins σ H s) (r : Vals vs us)
    (h : ∀ x dx, H x = none → H dx = none → dx ≠ x → sp (V.ref x :: vs) (upd (upd H dx (.own x)) x (.ins C dx [])) (fun v H2 => v = .non ∧ Q (.ref x) H2) E) :
    wpAny (model X.prog X.w) X.A (call (.ref C) us) (EP X pins σ Q) X.xe s := by
  have hq := h (s.heap.objs.size + 1) s.heap.objs.size (I.hok.fresh (Nat.le_succ _)) (I.hok.fresh (Nat.le_refl _)) (Nat.ne_of_lt (Nat.lt_succ_self _))
  have I2 := Inv.made (C := C) I
  have r2 : Vals (V.ref (s.heap.objs.size + 1) :: vs) (Value.ref (s.heap.objs.size + 1) :: us) := .cons rfl r
  refine wpAny_call (make_map (f := f) I.kIn M.makes M.init (beq_iff_eq.mp M.fn) (codeAny_mono (F _ X.stack _ _ (Value.ref (s.heap.objs.size + 1) :: us) _ _ E (hr.make C us []) (I2.env0.make C us []) r2 hq) fun r s' hq' => ?_))
  cases r with
  | error e => exact hx pins _ _ e s' I2 hq'
  | ok fl =>
    cases fl with
    | ret u =>
      obtain ⟨v, H', I3, rv, ev, q3⟩ := I2.after hq'
      subst ev
      exact ⟨rv, ⟨V.ref (s.heap.objs.size + 1), H', I3, rfl, q3⟩⟩
    | next => exact False.elim hq'
    | brk => exact False.elim hq'
    | cont => exact False.elim hq'
end
section
variable {X : Cx} {CX : CXT} {k i : Nat} {f C : Addr} {sp : Sp} {E : St → XK} {x : Str} {e o : Expr} {es : List Expr} {t : TA} {ta : TE} {p pos apos : Pos}
/-- C(e, ..) -/
theorem pe_mkR (M : Mk X.K C f) (F : FnR X.prog X.w X.K X.mg X.base CX k f sp) (hr : Room (k + 1) X.A) (hg : Gl X x) (hm : X.mg x = some (.ref C)) (hx : ∀ σ, PassesAt CX X σ (E σ)) (ha : PA X (e :: es) t) (hdb : (x == ("__debug__" : Str)) = false := by decide)
    (he : starEach (e :: es) X.env = (false, eval e X.env) :: starEach es X.env := by rfl) (hpl : (backTo pos (starEach es X.env)).any (·.1) = false := by rfl) : PE X (.Call (.Name x p) (e :: es) [] pos) (tMkR C sp E t) := by
  refine ⟨fun pins s σ H Q I h => wpAny_Call_Name_kw (ld_glob I hg hm ?_ hdb)⟩
  exact PySem.W.callWith_K (h₀ := X.base) I.ok.mod.kin M.kp (thn (ha.run pos pins s σ H _ I h) fun us s1 ⟨vs, H1, I1, r, q⟩ => ⟨I1.kIn, run_mkRS M F hr (hx σ) I1 r q⟩) he hpl
/-- C(e, .., *y) -/
theorem pe_mkRs (M : Mk X.K C f) (F : FnR X.prog X.w X.K X.mg X.base CX k f sp) (hr : Room (k + 1) X.A) (hg : Gl X x) (hm : X.mg x = some (.ref C)) (hx : ∀ σ, PassesAt CX X σ (E σ)) (ha : PA X (e :: es) t) (hdb : (x == ("__debug__" : Str)) = false := by decide)
    (he : starEach (e :: es) X.env = (false, eval e X.env) :: starEach es X.env := by rfl) (hst : (backTo pos (starEach es X.env)).any (·.1) = true := by rfl) : PE X (.Call (.Name x p) (e :: es) [] pos) (tMkR C sp E t) := by
  refine ⟨fun pins s σ H Q I h => wpAny_Call_Name_kw (ld_glob I hg hm ?_ hdb)⟩
  exact PySem.W.callWith_S2 (h₀ := X.base) I.ok.mod.kin M.kp (thn (ha.run pos pins s σ H _ I h) fun us s1 ⟨vs, H1, I1, r, q⟩ => ⟨I1.kIn, run_mkRS M F hr (hx σ) I1 r q⟩) he hst
/-- cls(e, .., *y), cls a local name that holds C -/
theorem pe_mkLs (M : Mk X.K C f) (F : FnR X.prog X.w X.K X.mg X.base CX k f sp) (hr : Room (k + 1) X.A) (i : Nat) (hN : X.N[i]? = some x) (hv : Vis X.env.scope x) (hx : ∀ σ, PassesAt CX X σ (E σ)) (ha : PA X (e :: es) t) (hdb : (x == ("__debug__" : Str)) = false := by decide)
    (hcd : (x == ("__classdict__" : Str)) = false := by decide)
    (he : starEach (e :: es) X.env = (false, eval e X.env) :: starEach es X.env := by rfl) (hst : (backTo pos (starEach es X.env)).any (·.1) = true := by rfl) : PE X (.Call (.Name x p) (e :: es) [] pos) (tMkL i C sp E t) := by
  refine ⟨fun pins s σ H Q I h => ?_⟩
  obtain ⟨hs, ht⟩ := h
  refine wpAny_Call_Name_kw (thn ((pe_var (pos := p) hN hv hdb hcd).run pins s σ H (fun v H1 => v = .ref C ∧ H1 = H) I ⟨.ref C, hs, rfl, rfl⟩) fun u s1 ⟨v, H1, I1, r1, q1⟩ => ?_)
  obtain ⟨rfl, rfl⟩ := q1
  cases r1
  exact PySem.W.callWith_S2 (h₀ := X.base) I.ok.mod.kin M.kp (thn (ha.run pos pins s1 σ _ _ I1 ht) fun us s2 ⟨vs, H2, I2, r, q⟩ => ⟨I2.kIn, run_mkRS M F hr (hx σ) I2 r q⟩) he hst
/-- C.m(e, ..), m a classmethod -/
theorem pe_cmS {mc : Value} {p g : Addr} {m : Str} {pl : Sem Bool} (he : PE X o ta) (r : ClX.CRead X.K C mc) (c : ClX.CMet X.K C mc m p g) (F : FnR X.prog X.w X.K X.mg X.base CX k g sp) (hr : Room k X.A) (hx : ∀ σ, PassesAt CX X σ (E σ)) (ha : PA X (e :: es) t)
    (hst : starEach (e :: es) X.env = (false, eval e X.env) :: starEach es X.env := by rfl) (hpl : (backTo pos (starEach es X.env)).any (·.1) = false := by rfl)
    (ht : eval (.Call (.Attribute o m apos) (e :: es) [] pos) X.env = (do
      let ov ← eval o X.env
      standAt apos.atName
      let (f, first) ← holding [ov] (getMethod ov m pl)
      callWith pos f first (backTo pos (starEach (e :: es) X.env)) (backToKw pos (keywordEach [] X.env))) := by rfl) :
    PE X (.Call (.Attribute o m apos) (e :: es) [] pos) (tCMS C sp E ta t) := by
  refine ⟨fun pins s σ H Q I h => ?_⟩
  refine PySem.W.methodCall_KW (pl := pl) (thn (he.run pins s σ H _ I h) fun u s1 ⟨x, H1, I1, rx, ex, q⟩ => ?_) ht
  subst ex
  obtain rfl : u = Value.ref C := rx
  refine ClX.getmethcm_ok I1 r c fun s2 I2 => ?_
  refine ClX.callwith_cm I2 (ClX.base_none I1 (Nat.le_refl _)) c.fi (thn (ha.run pos _ s2 σ H1 _ I2 q) fun us s3 ⟨vs, H2, I3, rv, q2⟩ => ⟨⟨ClX.pin_at I3, I3.kIn⟩, ?_⟩) hst hpl
  have z : wpAny (model X.prog X.w) X.A (call (.ref s1.heap.objs.size) us) (EP X ((s1.heap.objs.size, PySem.W.methodObj (.ref g) (.ref C)) :: pins) σ Q) X.xe s3 :=
    wpAny_call (PySem.W.method_call (ClX.pin_at I3) (run_fnRS (us := .ref C :: us) (vs := .ref C :: vs) F hr (hx σ) I3 (.cons rfl rv) q2))
  exact thn z fun _ _ y => ClX.unpinE y
end
/-! ### len(o) -/
def rLenO (C : Addr) (sp : Sp) : List V → Hp → VK → Prop := fun xs H Q => match xs with
  | [.ref a] => ∃ dx fs, H a = some (.ins C dx fs) ∧ sp [.ref a] H (fun v H' => ∃ n : Int, v = .int n ∧ 0 ≤ n ∧ n < 2 ^ 62 ∧ Q (.int n) H') E0
  | _ => False
section
variable {X : Cx} {k : Nat} {f C : Addr} {fd : FuncData} {ps : List Str} {sp : Sp}
theorem cc_lenO {CX : CXT} (hl : PySem.W.findIn X.K (.ref C) "__len__" = some (some (.ref f))) (hf : PySem.W.isFn X.K (.ref f) = true) (F : FnOk X.prog X.w X.K X.mg X.base CX k f fd ps sp) (hr : Room (k + 1) X.A) (hb : Binds X.K fd ps []) (hx : Passes CX X E0) : CallR X (.builtin "len") (rLenO C sp) := by
  intro pins s σ H xs us Q I r h
  unfold rLenO at h
  split at h
  · rename_i a
    obtain ⟨dx, fs, ha, h⟩ := h
    obtain ⟨u, rfl, ru⟩ := vals1 r
    cases (show u = Value.ref a from ru)
    obtain ⟨mA, O, _⟩ := ins_get I.hok ha
    obtain ⟨od, J, _⟩ := O.look
    have sb : Sub X k X.A.in1 := Sub.in1 (⟨hr, rfl⟩ : Sub X (k + 1) X.A)
    have e0 : Env0 X.prog X.w X.K X.mg X.base X.A.in1 X.stack s H := by
      have e := I.env0
      exact ⟨by rw [sb.fr]; exact e.frames, e.mod, e.bs, e.bsz, e.funs, e.frf, e.hok, e.bare⟩
    have hlen := F.len _ _ _ _ h
    refine Calls.call_function_entry PySem.kind_len PySem.plain_len PySem.entry_len (PySem.args_len1 _) ?_
    unfold Builtin.«len»
    refine wpAny_bind (m := oneArg "len" _) (wpAny_pure ?_)
    refine wpAny_bind (m := callSpecial? (.ref a) (Str.ofString "__len__")) (PySem.W.special_fn I.kIn J hl (beq_iff_eq.mp hf) ?_)
    refine wpAny_call (codeAny_mono (F.run X.A.in1 X.stack s H ⟨[.ref a], []⟩ [.ref a] [.ref a] _ E0 sb.room e0 (by
      have := hb s [.ref a] I.kIn (by simpa using hlen)
      simpa using this) (.cons rfl .nil) h) fun r s' hq => ?_)
    cases r with
    | error e => exact hx pins σ H s e s' I hq
    | ok fl =>
      cases fl with
      | ret w =>
        obtain ⟨z, H', I', rz, n, ez, h0, h1, q⟩ := I.after hq
        subst ez
        obtain ⟨t, rfl⟩ := rz
        refine wpAny_bind (wpAny_holding (wpAny_pure ?_))
        refine wpAny_bind (wpAny_letGo ?_)
        show wpAny _ _ (if n < 0 then _ else _) _ _ _
        rw [if_neg (by omega)]
        show wpAny _ _ (if n ≥ 2 ^ 63 then _ else _) _ _ _
        rw [if_neg (by omega)]
        exact wpAny_bind (wpAny_mkInt (wpAny_pure ⟨_, rfl, .int n, H', I'.tok _, ⟨_, rfl⟩, q⟩))
      | next => exact False.elim hq
      | brk => exact False.elim hq
      | cont => exact False.elim hq
  · exact h.elim
end
end L2

/-! x in t, x not in t: the items compared by an own __eq__. t[::-1] of a tuple. -/
namespace GB
open PySem PyProof.Rows
section
variable {prog : Program} {w : World} {A : Around} {E : Value → Shared → Prop} {s : Shared}
theorem tuple_inB {t : Addr} {items : Array Value} {x : Value} {P : Fin → Shared → Prop} (I : Shared → Prop) (e : Nat → Bool) (ht : IsTup s.heap t items)
    (turn : ∀ i (h : i < items.size) s', I s' → wpAny (model prog w) A (eqBool items[i] x) (fun r s2 => r = e i ∧ I s2) E s') (h0 : I s)
    (fin : ∀ s', I s' → P (.done (.ret (.bool ((List.range items.size).any e)))) s') : wpAny (model prog w) A (Builtin.«tuple.__contains__» ⟨[.ref t, x], []⟩) P E s := by
  show wpAny _ _ (Builtin.Tuple.tupleItemsOf (.ref t) >>= _) _ _ s
  refine wpAny_bind (tupleItemsOf_ ht ?_)
  refine wpAny_bind (forIn_array_ _ (fun rest b s' => b.1 = none ∧ I s' ∧ ∃ i, rest = items.toList.drop i ∧ ∀ s', I s' → P (.done (.ret (.bool (((List.range items.size).drop i).any e)))) s') _ ?_ ?_ items _ ⟨rfl, h0, 0, rfl, fin⟩)
  · rintro y rest b s' ⟨hb, hI, i, hi, hP⟩
    have hlt : i < items.toList.length := by
      rcases Nat.lt_or_ge i items.toList.length with h' | h'
      · exact h'
      · rw [List.drop_of_length_le h'] at hi; cases hi
    have hs : i < items.size := by simpa using hlt
    rw [List.drop_eq_getElem_cons hlt] at hi
    injection hi with hy hrest
    have hy : y = items[i] := by simpa using hy
    subst hy
    rw [drop_range hs, List.any_cons] at hP
    refine wpAny_bind (wpAny_mono (turn i hs s' hI) (fun r s2 q2 => ?_) fun _ _ x => x)
    obtain ⟨hr, q2⟩ := q2
    subst hr
    cases he : e i with
    | true =>
      rw [he] at hP
      have := hP _ q2
      exact wpAny_bind (wpAny_pure (wpAny_pure (wpAny_pure (by simpa using this))))
    | false =>
      rw [he] at hP
      exact wpAny_pure ⟨rfl, q2, i + 1, hrest, by simpa using hP⟩
  · rintro ⟨b1, b2⟩ s' ⟨hb, hI, i, hi, hP⟩
    have hge : items.size ≤ i := by
      rcases Nat.lt_or_ge i items.toList.length with h' | h'
      · rw [List.drop_eq_getElem_cons h'] at hi; cases hi
      · simpa using h'
    rw [List.drop_of_length_le (by simpa using hge)] at hP
    have := hP _ hI
    simp only at hb
    subst hb
    exact wpAny_pure (by simpa using this)
theorem contains_inB {t : Addr} {items : Array Value} {x : Value} {Q : Bool → Shared → Prop} (I : Shared → Prop) (e : Nat → Bool) (ht : IsTup s.heap t items)
    (turn : ∀ i (h : i < items.size) s', I s' → wpAny (model prog w) A.in1 (eqBool items[i] x) (fun r s2 => r = e i ∧ I s2) E s') (h0 : I s)
    (fin : ∀ s', I s' → Q ((List.range items.size).any e) s') : wpAny (model prog w) A (contains (.ref t) x) Q E s := by
  unfold contains
  refine wpAny_holding ?_
  refine wpAny_bind (wpAny_specialOf ht.typeIs slot_tuple_contains.lookup ?_)
  rw [if_neg (by decide)]
  exact wpAny_bind (wpAny_callSpecialUnlessNone?_slot (name := Str.ofString "__contains__") ht.typeIs slot_tuple_contains
    (wpAny_call_entry slot_tuple_contains ht.typeIs entry_tuple_contains (tuple_inB I e ht turn h0 fun s' q => ⟨_, rfl, wpAny_truthy_bool (fin s' q)⟩) (args_tuple_contains _ _)))
end
end GB
namespace L2
open PySem PySem.Spec PyProof.Rows
def rInB (neg : Bool) (K : PySem.W.Frag) (D : EqvB) : R2 := fun x y H Q => ∃ p ys e, y = .ref p ∧ SqT K H p ys ∧ (∀ (i : Nat) z, ys[i]? = some z → D z x H (e i)) ∧ ∀ H', Ext H H' → Q (.bl (neg != (List.range ys.length).any e)) H'
section
variable {X : Cx} {n : Nat} {D : EqvB}
theorem run_inB (hD : MonB D) (h : EqB X n D) (hr : Room (n + 1) X.A) {pins : List (Addr × Obj)} {s : Shared} {σ : St} {H : Hp} {x : V} {u : Value} {p : Addr} {ys : List V} {e : Nat → Bool} {Q : Bool → Shared → Prop} (I : Inv X pins σ H s) (rx : RelV x u) (hp : SqT X.K H p ys)
    (hd : ∀ (i : Nat) z, ys[i]? = some z → D z x H (e i)) (q : ∀ s' H', Inv X pins σ H' s' → Ext H H' → Q ((List.range ys.length).any e) s') : wpAny (model X.prog X.w) X.A (contains (.ref p) u) Q X.xe s := by
  obtain ⟨its, r, g, z⟩ := I.tuple hp
  have hsz : its.toArray.size = ys.length := by rw [List.size_toArray, ← r.length]
  refine GB.contains_inB (LoopI X pins σ H) e g (fun i h1 s' l => ?_) ⟨H, I, Ext.rfl'⟩ fun s' l => ?_
  · obtain ⟨H1, I1, e1⟩ := l
    have k1 : i < ys.length := by omega
    obtain ⟨v, hv, rv⟩ := r.get (List.getElem?_eq_getElem k1)
    have g1 : its[i]? = some its.toArray[i] := by
      have h1' : i < its.length := by simpa using h1
      rw [List.getElem?_eq_getElem h1'] <;> simp
    rw [g1] at hv
    rw [Option.some.inj hv]
    refine wpAny_mono (h X.A.in1 pins s' σ H1 _ _ v u _ (Sub.in1 (⟨hr, rfl⟩ : Sub X (n + 1) X.A)) I1 rv rx (hD _ _ _ _ _ e1 (hd i _ (List.getElem?_eq_getElem k1)))) (fun r s2 q => ?_) fun _ _ x => x
    obtain ⟨hr, H2, I2, e2⟩ := q
    exact ⟨hr, H2, I2, e1.trans e2⟩
  · obtain ⟨H1, I1, e1⟩ := l
    rw [hsz]
    exact q s' H1 I1 e1
theorem op_inB {K : PySem.W.Frag} (hD : MonB D) (h : EqB X n D) (hr : Room (n + 1) X.A) (hK : X.K = K := by rfl) : OpR X (compareOp .In) (rInB false K D) := by
  subst hK
  intro pins s σ H x y v u Q I rx ry hq
  obtain ⟨p, ys, e, rfl, hp, hd, q⟩ := hq
  cases ry
  show wpAny (model X.prog X.w) X.A (do return Value.bool (← contains (.ref p) v)) (EP X pins σ Q) X.xe s
  refine wpAny_bind (run_inB hD h hr I rx hp hd fun s' H' I' ex => wpAny_pure ⟨.bl _, H', I', rfl, ?_⟩)
  have := q H' ex
  rw [bne_f] at this
  exact this
theorem op_notInB {K : PySem.W.Frag} (hD : MonB D) (h : EqB X n D) (hr : Room (n + 1) X.A) (hK : X.K = K := by rfl) : OpR X (compareOp .NotIn) (rInB true K D) := by
  subst hK
  intro pins s σ H x y v u Q I rx ry hq
  obtain ⟨p, ys, e, rfl, hp, hd, q⟩ := hq
  cases ry
  show wpAny (model X.prog X.w) X.A (do return Value.bool (!(← contains (.ref p) v))) (EP X pins σ Q) X.xe s
  refine wpAny_bind (run_inB hD h hr I rx hp hd fun s' H' I' ex => wpAny_pure ⟨.bl _, H', I', rfl, ?_⟩)
  have := q H' ex
  rw [bne_t] at this
  exact this
end
/-! ### t[::-1] -/
end L2
namespace HT
open PySem PySem.Spec PyProof.Rows
section
variable {prog : Program} {w : World} {A : Around} {E : Value → Shared → Prop} {s : Shared}
theorem adjust_rev (n : Nat) : Builtin.Slice.sliceAdjust none none (-1) (n : Int) = ((n : Int) - 1, -1) := rfl
theorem places_rev (n : Nat) : Builtin.Slice.slicePlaces ((n : Int) - 1) (-1) (-1) = n := by
  unfold Builtin.Slice.slicePlaces
  rw [if_neg (by decide)]
  by_cases h : (n : Int) - 1 > -1
  · rw [if_pos h, show (- (-1 : Int)) = 1 by decide, Int.ediv_one]; omega
  · rw [if_neg h]; omega
theorem pick_rev (xs : Array Value) : ((List.range xs.size).filterMap fun (m : Nat) => xs[(((xs.size : Int) - 1) + (m : Int) * (-1)).toNat]?).toArray = xs.toList.reverse.toArray := by
  congr 1
  have e : (List.range xs.size).filterMap (fun (m : Nat) => xs[(((xs.size : Int) - 1) + (m : Int) * (-1)).toNat]?) = (List.range xs.size).map fun m => xs.toList.reverse.getD m .none := by
    have gen : ∀ (l : List Nat) (f : Nat → Option Value) (g : Nat → Value), (∀ m ∈ l, f m = some (g m)) → l.filterMap f = l.map g := by
      intro l f g
      induction l with
      | nil => intro _; rfl
      | cons a l ih =>
        intro h
        rw [List.filterMap_cons, h a List.mem_cons_self, ih fun m hm => h m (List.mem_cons_of_mem _ hm)]; rfl
    refine gen _ _ _ fun m hm => ?_
    have hm := List.mem_range.mp hm
    have e1 : (((xs.size : Int) - 1) + (m : Int) * (-1)).toNat = xs.size - 1 - m := by omega
    have h1 : xs.size - 1 - m < xs.size := by omega
    rw [e1, Array.getElem?_eq_getElem h1]
    rw [List.getD_eq_getElem?_getD, List.getElem?_reverse (by simpa using hm)]
    simp [h1]
  rw [e]
  apply List.ext_getElem?
  intro i
  rw [List.getElem?_map]
  by_cases hi : i < xs.size
  · rw [List.getElem?_range hi]
    have : i < xs.toList.reverse.length := by simpa using hi
    rw [List.getElem?_eq_getElem this]
    show some (xs.toList.reverse.getD i .none) = _
    rw [List.getD_eq_getElem?_getD, List.getElem?_eq_getElem this]; rfl
  · rw [List.getElem?_eq_none (by simp; omega), List.getElem?_eq_none (by simp; omega)]; rfl
theorem getItem_tuple_rev {t sl : Addr} {items : Array Value} {vl vu vs : Value} {Q : Value → Shared → Prop} (ht : IsTup s.heap t items) (hs : s.heap.IsSliceOf sl vl vu vs) (pl : IsPart vl none) (pu : IsPart vu none) (ps : IsPart vs (some (-1)))
    (h : Q (.ref s.heap.objs.size) { s with heap := s.heap.push { cls := .type "tuple", data := .seq items.toList.reverse.toArray } })
    (hsz : items.size ≤ sizeLine) : wpAny (model prog w) A (getItem (.ref t) (.ref sl)) Q E s := by
  have htake : sizeOk (.seq items.toList.reverse.toArray) := by
    show items.toList.reverse.toArray.size ≤ sizeLine
    rw [List.size_toArray, List.length_reverse, Array.length_toList]
    omega
  obtain ⟨os, hos, hcs, hds⟩ := id hs
  have hTs : s.TypeIs (.ref sl) "slice" := ⟨os, hos, hcs⟩
  unfold getItem
  try with_reducible refine wpAny_holding ?_
  first | refine wpAny_bind (wpAny_pure ?_) | skip
  refine wpAny_bind (wpAny_sequenceKey ht.typeIs (by decide) ?_)
  refine wpAny_bind (wpAny_callSpecial?_slot (name := Str.ofString "__getitem__") ht.typeIs PyProof.Rows.slot_tuple_getitem
    (wpAny_call_entry PyProof.Rows.slot_tuple_getitem ht.typeIs entry_tuple_getitem ?_ (args_tuple_getitem _ _)))
  show wpAny _ _ (Builtin.Tuple.tupleItemsOf (.ref t) >>= _) _ _ s
  refine wpAny_bind (tupleItemsOf_ ht ?_)
  refine wpAny_bind (wpAny_typeOf hTs ?_)
  rw [if_pos (by decide)]
  refine wpAny_bind ?_
  unfold Builtin.Slice.sliceApplied Builtin.Slice.sliceFields
  refine wpAny_bind (wpAny_bind (wpAny_field hos hds (x := vl) rfl (wpAny_bind (wpAny_field hos hds (x := vu) rfl (wpAny_bind (wpAny_field hos hds (x := vs) rfl (wpAny_pure ?_)))))))
  refine wpAny_bind (slicePart_ ps ?_)
  show wpAny _ _ (if ((-1 : Int) == 0) = true then _ else _) _ _ s
  rw [if_neg (by decide)]
  refine wpAny_bind (slicePart_ pl (wpAny_bind (slicePart_ pu (wpAny_bind (wpAny_pure ?_)))))
  show wpAny _ _ (match Builtin.Slice.sliceAdjust none none (-1) (items.size : Int) with | (lo, hi) => pure (lo, (-1 : Int), Builtin.Slice.slicePlaces lo hi (-1))) _ _ s
  rw [adjust_rev]
  show wpAny _ _ (pure ((items.size : Int) - 1, (-1 : Int), Builtin.Slice.slicePlaces ((items.size : Int) - 1) (-1) (-1))) _ _ s
  rw [places_rev]
  refine wpAny_pure ?_
  have hno : ¬ ((((items.size : Int) - 1) == 0 && (-1 : Int) == 1 && items.size == items.size) = true) := by
    rw [show ((-1 : Int) == 1) = false by decide, Bool.and_false, Bool.false_and]; decide
  show wpAny _ _ (if ((((items.size : Int) - 1) == 0 && (-1 : Int) == 1 && items.size == items.size) = true) then _ else _) _ _ s
  rw [if_neg hno, pick_rev]
  first
    | exact wpAny_bind (m := Builtin.Tuple.tupleExact _) (wpAny_newObj_type (wpAny_pure ⟨_, rfl, wpAny_pure h⟩) htake)
    | exact wpAny_bind (m := Builtin.Tuple.tupleExact _) (wpAny_newObj_type (wpAny_bind (wpAny_pure (wpAny_pure ⟨_, rfl, wpAny_pure h⟩))) htake)
    | exact wpAny_bind (wpAny_bind (m := Builtin.Tuple.tupleExact _) (wpAny_newObj_type (wpAny_pure (wpAny_pure ⟨_, rfl, wpAny_pure h⟩)) htake))
    | exact wpAny_bind (wpAny_bind (m := Builtin.Tuple.tupleExact _) (wpAny_newObj_type (wpAny_pure ⟨_, rfl, wpAny_pure h⟩) htake))
end
end HT
namespace L2
open PySem PySem.Spec PyProof.Rows
def tRevT (K : PySem.W.Frag) (te : TE) : TE := fun σ H Q => te σ H fun x H1 => ∃ a xs, x = .ref a ∧ SqT K H1 a xs ∧ ∀ p, H1 p = none → Q (.ref p) (upd H1 p (.tup xs.reverse))
theorem pe_revT {X : Cx} {K : PySem.W.Frag} {e : Expr} {te : TE} {k : Nat} {p1 p2 p3 pos : Pos} (he : PE X e te) (hK : X.K = K := by rfl) : PE X (.Subscript e (.Slice none none (some (.UnaryOp .USub (.Constant (.int 1) k p1) p2)) p3) pos) (tRevT K te) := by
  subst hK
  refine ⟨fun pins s σ H Q I h => ?_⟩
  refine Subscript_ (thn (he.run pins s σ H _ I h) fun v s1 ⟨x, H1, I1, r1, q1⟩ => ?_)
  obtain ⟨a, xs, ex, hx, q⟩ := q1
  subst ex
  cases r1
  have hst : PO X (some (.UnaryOp .USub (.Constant (.int 1) k p1) p2)) (tPart (tUn (rU fun i => .int (-i)) (tC (.int 1)))) := po_some (pe_un un_neg pe_int)
  refine wpAny_Slice (thn (po_none.run pins s1 σ H1 (fun o H2 => o = none ∧ H2 = H1) I1 ⟨rfl, rfl⟩) fun vl s2 ⟨l, H2, I2, pl, el, e2⟩ => ?_)
  subst el e2
  refine thn (po_none.run pins s2 σ H2 (fun o H3 => o = none ∧ H3 = H2) I2 ⟨rfl, rfl⟩) fun vu s3 ⟨u, H3, I3, pu, eu, e3⟩ => ?_
  subst eu e3
  refine thn (hst.run pins s3 σ H3 (fun o H4 => o = some (-1) ∧ H4 = H3) I3 ⟨1, rfl, -1, rfl, rfl, rfl⟩) fun vs s4 ⟨o, H4, I4, ps, eo, e4⟩ => ?_
  subst eo e4
  have I5 : Inv X pins σ H4 { s4 with heap := s4.heap.push { cls := .type "slice", data := .fields #[vl, vu, vs] } } := I4.kept (t' := s4.toks) fun b ob q => Heap.get?_push_of_some _ q
  obtain ⟨its, r, ht, hz⟩ := I5.tuple hx
  have hlen := r.length
  show wpAny (model X.prog X.w) X.A (subscriptTail e (.Slice none none (some (.UnaryOp .USub (.Constant (.int 1) k p1) p2)) p3) (.ref a) (.ref s4.heap.objs.size)) (EP X pins σ Q) X.xe { s4 with heap := s4.heap.push { cls := .type "slice", data := .fields #[vl, vu, vs] } }
  refine tail_any (ops := [.ref a, .ref s4.heap.objs.size]) ht.typeIs (PyProof.Rows.slot_tuple_getitem.lookup) ?_ (by with_unfolding_all rfl)
  refine HT.getItem_tuple_rev ht (Heap.IsSliceOf.new _ vl vu vs) pl pu ps ?_ (by rw [List.size_toArray]; omega)
  refine ⟨.ref _, _, I5.laid (t' := s4.toks) (o := .tup xs.reverse) (fun b ob q => Heap.get?_push_of_some _ q) (Nat.le_refl _) ?_, rfl, q _ (I5.hok.fresh (Nat.le_refl _))⟩
  exact ⟨by rw [List.length_reverse]; exact hz, _, r.reverse, IsTup.new _ _⟩
end L2

/-! Dicts with texts as keys, by readings that compute; defs with a star parameter. -/
namespace L2
open PySem PySem.Spec PyProof.Rows
def rDInC (neg : Bool) : R2 := fun y x H Q => match y, x with
  | .str k, .ref a => ∃ kvs, H a = some (.dK kvs) ∧ Q (.bl (neg != (valV kvs (Sum.inr k)).isSome)) H
  | _, _ => False
section
variable {X : Cx}
theorem oc_din (hu : X.A.units + 64 < cLine) : OpR X (compareOp .In) (rDInC false) := fun pins s σ H x y v u Q I rx ry h => by
  unfold rDInC at h
  split at h
  · obtain ⟨kvs, hd, q⟩ := h
    rename_i k a
    cases (show u = Value.ref a from ry)
    exact d_in (by omega) I (DGet.k (k := Sum.inr k) hd) rx fun s3 I3 => ⟨.bl _, H, I3, rfl, by rw [bne_f] at q; exact q⟩
  · exact h.elim
theorem oc_dnotin (hu : X.A.units + 64 < cLine) : OpR X (compareOp .NotIn) (rDInC true) := fun pins s σ H x y v u Q I rx ry h => by
  unfold rDInC at h
  split at h
  · obtain ⟨kvs, hd, q⟩ := h
    rename_i k a
    cases (show u = Value.ref a from ry)
    exact d_notIn (by omega) I (DGet.k (k := Sum.inr k) hd) rx fun s3 I3 => ⟨.bl _, H, I3, rfl, by rw [bne_t] at q; exact q⟩
  · exact h.elim
theorem hu1 {n : Nat} (h : n + 64 < cLine) : n + 1 < cLine := by omega
end
/-! ### defs with a star parameter -/
def spStar (n : Nat) (sp : Sp) : Sp := fun vs H Q E => ∃ ws rest, vs = ws ++ rest ∧ ws.length = n ∧ rest.length ≤ sizeLine ∧ ∀ p, H p = none → sp (ws ++ [.ref p]) (upd H p (.tup rest)) Q E
def BStar (K : PySem.W.Frag) (fd : FuncData) (ps : List Str) (pv : Str) : Prop := ∀ us rest : List Value, us.length = ps.length → bindArgs fd ⟨us ++ rest, []⟩ = (newTuple rest >>= fun t => pure (ps.zip us ++ [(pv, t)]))
section
variable {P : Program} {w : World} {K : PySem.W.Frag} {mg : Str → Option Value} {base : Heap}
theorem Fun.okStar {x qual : Str} {st : Stmt} {f : Addr} {fd : FuncData} {N ps : List Str} {pv : Str} {k : Nat} {sp : Sp} (F : Fun K x qual st f fd) (hb : BStar K fd ps pv) (S : FnScope N (ps ++ [pv]) (defScope st))
    (hbody : ∀ (cdv : Value) (A : Around) (outer : List Env) (s : Shared) (H : Hp) (vs : List V) (Q : VK) (E : XK), Room k (A.deeper (envOfC qual (defScope st) s.heap.objs.size f cdv)) → sp vs H Q E →
      ∃ t, PSs (cxOf (L2.CX P w) P w K mg base N qual (defScope st) f cdv A outer s H E) (defBody st) t ∧ t { nx := fun _ H' => Q .non H', rt := Q } (start N vs) H) : FnR P w K mg base (L2.CX P w) (k + 1) f (spStar ps.length sp) := by
  obtain ⟨oc, od, kV, doc, pm, an, cdv, ct, osl, rfl, lk, hcd⟩ := F.ex
  exact StX.fn_star lk hcd S StX.cxUp hb fun A outer s H vs Q E hr hsp => hbody cdv A outer s H vs Q E hr hsp
theorem FnOk.r {CX : CXT} {k : Nat} {f : Addr} {fd : FuncData} {ps : List Str} {sp : Sp} (F : FnOk P w K mg base CX k f fd ps sp) (hb : Binds K fd ps []) : FnR P w K mg base CX k f sp :=
  (F.raw hb .nil).imp fun vs H Q E h => by rw [List.append_nil]; exact h
end
/-! ### permutations -/
theorem perm_lift {α β : Type} {f : α → β} {ys zs : List β} (h : ys.Perm zs) : ∀ ps : List α, zs = ps.map f → ∃ ps' : List α, ps'.Perm ps ∧ ps'.map f = ys := by
  induction h with
  | nil =>
    intro ps e
    cases ps with
    | nil => exact ⟨[], .nil, rfl⟩
    | cons a t => cases e
  | cons x _ ih =>
    intro ps e
    cases ps with
    | nil => cases e
    | cons a t =>
      rw [List.map_cons] at e
      injection e with e1 e2
      obtain ⟨ps', h1, h2⟩ := ih t e2
      exact ⟨a :: ps', h1.cons a, by rw [List.map_cons, h2, ← e1]⟩
  | swap x y l =>
    intro ps e
    match ps, e with
    | a :: b :: t, e =>
      rw [List.map_cons, List.map_cons] at e
      injection e with e1 e2
      injection e2 with e2 e3
      exact ⟨b :: a :: t, .swap a b t, by rw [List.map_cons, List.map_cons, e1, e2, e3]⟩
    | [a], e => simp at e
    | [], e => simp at e
  | trans _ _ ih1 ih2 =>
    intro ps e
    obtain ⟨p1, h1, h2⟩ := ih2 ps e
    obtain ⟨p2, h3, h4⟩ := ih1 p1 h2.symm
    exact ⟨p2, h3.trans h1, h4⟩
/-! ### sorted texts -/
def leS (a b : Str) : Prop := a.cps.toList ≤ b.cps.toList
theorem leS_iff {a b : Str} : (!ltCps b.cps.toList a.cps.toList) = true ↔ leS a b := by
  rw [ltCps_eq]
  unfold leS
  rw [Bool.not_eq_true', decide_eq_false_iff_not]
  exact List.not_lt
theorem leS_trans {a b c : Str} (h : leS a b) (g : leS b c) : leS a c := List.le_trans h g
theorem leS_anti {a b : Str} (h : leS a b) (g : leS b a) : a = b := by
  have e : a.cps.toList = b.cps.toList := List.le_antisymm h g
  obtain ⟨a⟩ := a
  obtain ⟨b⟩ := b
  have e : a.toList = b.toList := e
  rw [Array.toList_inj.mp e]
theorem rising_pw : ∀ (r : List Str) (p : Str), risingS p r = true → (∀ x ∈ r, leS p x) ∧ r.Pairwise leS
  | [], _, _ => ⟨fun _ h => (nomatch h), .nil⟩
  | x :: r, p, h => by
    unfold risingS at h
    obtain ⟨h1, h2⟩ := Bool.and_eq_true_iff.mp h
    obtain ⟨g1, g2⟩ := rising_pw r x h2
    have hpx := leS_iff.mp h1
    refine ⟨fun y hy => ?_, .cons g1 g2⟩
    rcases List.mem_cons.mp hy with rfl | hy
    · exact hpx
    · exact leS_trans hpx (g1 y hy)
theorem sortedS_pw {l : List Str} (h : sortedS l = true) : l.Pairwise leS := by
  cases l with
  | nil => exact .nil
  | cons x r =>
    obtain ⟨h1, h2⟩ := rising_pw r x h
    exact .cons h1 h2
theorem pw_uniq {α : Type} {R : α → α → Prop} (anti : ∀ a b, R a b → R b a → a = b) : ∀ {l m : List α}, l.Perm m → l.Pairwise R → m.Pairwise R → l = m
  | [], m, p, _, _ => (List.nil_perm.mp p).symm ▸ rfl
  | x :: l, [], p, _, _ => by simp at p
  | x :: l, y :: m, p, h, g => by
    cases h with
    | cons h1 h2 =>
      cases g with
      | cons g1 g2 =>
        have e : x = y := by
          rcases List.mem_cons.mp (p.mem_iff.mp List.mem_cons_self : x ∈ y :: m) with e | hx
          · exact e
          · rcases List.mem_cons.mp (p.mem_iff.mpr List.mem_cons_self : y ∈ x :: l) with e | hy
            · exact e.symm
            · exact anti _ _ (h1 y hy) (g1 x hx)
        subst e
        rw [pw_uniq anti (List.Perm.cons_inv p) h2 g2]
theorem sortedS_uniq {l m : List Str} (p : l.Perm m) (h : sortedS l = true) (g : sortedS m = true) : l = m := pw_uniq (fun _ _ => leS_anti) p (sortedS_pw h) (sortedS_pw g)
/-- things sorted by texts that are all unlike: one arrangement -/
theorem sortedBy_uniq {α : Type} {f : α → Str} {l m : List α} (inj : ∀ a ∈ m, ∀ b ∈ m, f a = f b → a = b) (p : l.Perm m) (h : sortedS (l.map f) = true) (g : sortedS (m.map f) = true) : l = m := by
  have e := sortedS_uniq (p.map f) h g
  have key : ∀ (l m : List α), (∀ a ∈ l, ∀ b ∈ m, f a = f b → a = b) → l.map f = m.map f → l = m := by
    intro l
    induction l with
    | nil => intro m _ e; cases m with
      | nil => rfl
      | cons a t => cases e
    | cons a l ih => intro m i e; cases m with
      | nil => cases e
      | cons b t =>
        rw [List.map_cons, List.map_cons] at e
        injection e with e1 e2
        rw [i a List.mem_cons_self b List.mem_cons_self e1, ih t (fun a ha b hb => i a (List.mem_cons_of_mem _ ha) b (List.mem_cons_of_mem _ hb)) e2]
  exact key l m (fun a ha b hb => inj a (p.mem_iff.mp ha) b hb) e
/-! ### the dict of things by texts -/
def kvOf {α : Type} (f : α → Str) (v : α → V) (ps : List α) : List (Key × V) := ps.map fun a => (Sum.inr (f a), v a)
theorem valV_kv {α : Type} {f : α → Str} {v : α → V} : ∀ {ps : List α} {a : α}, (ps.map f).Nodup → a ∈ ps → valV (kvOf f v ps) (Sum.inr (f a)) = some (v a)
  | [], _, _, h => by cases h
  | b :: ps, a, nd, h => by
    rw [List.map_cons, List.nodup_cons] at nd
    show valV ((Sum.inr (f b), v b) :: kvOf f v ps) _ = _
    rcases List.mem_cons.mp h with rfl | h
    · exact valV_pos rfl
    · have ne : ¬ (Sum.inr (f b) : Key) = Sum.inr (f a) := fun z => by
        injection z with z
        exact nd.1 (z ▸ List.mem_map_of_mem h)
      rw [valV_neg (p := (Sum.inr (f b), v b)) ne]
      exact valV_kv nd.2 h
theorem valV_kv_none {α : Type} {f : α → Str} {v : α → V} {k : Str} : ∀ {ps : List α}, (valV (kvOf f v ps) (Sum.inr k)).isSome = decide (k ∈ ps.map f)
  | [] => rfl
  | b :: ps => by
    show (valV ((Sum.inr (f b), v b) :: kvOf f v ps) _).isSome = _
    by_cases e : f b = k
    · rw [valV_pos (p := (Sum.inr (f b), v b)) (by rw [e]), decide_eq_true (by rw [List.map_cons, e]; exact List.mem_cons_self)]; rfl
    · rw [valV_neg (p := (Sum.inr (f b), v b)) (fun z => e (by injection z)), valV_kv_none]
      by_cases h : k ∈ ps.map f
      · rw [decide_eq_true h, decide_eq_true (by rw [List.map_cons]; exact List.mem_cons_of_mem _ h)]
      · rw [decide_eq_false h, decide_eq_false]
        intro z
        rw [List.map_cons] at z
        rcases List.mem_cons.mp z with z | z
        · exact e z.symm
        · exact h z
theorem putK_kv {α : Type} {f : α → Str} {v : α → V} {ps : List α} {a : α} (h : f a ∉ ps.map f) : putK (kvOf f v ps) (Sum.inr (f a)) (v a) = kvOf f v (ps ++ [a]) := by
  unfold putK
  rw [valV_any, valV_kv_none, decide_eq_false h, if_neg (by decide)]
  unfold kvOf
  rw [List.map_append]; rfl
/-- the first text that stands there before -/
def dupP : List Str → List Str → Option Str
  | _, [] => none
  | seen, p :: r => if p ∈ seen then some p else dupP (seen ++ [p]) r
theorem dupP_none : ∀ {ps seen : List Str}, seen.Nodup → (dupP seen ps = none ↔ (seen ++ ps).Nodup)
  | [], seen, h => by simp [dupP, h]
  | p :: r, seen, h => by
    unfold dupP
    by_cases hp : p ∈ seen
    · rw [if_pos hp]
      refine ⟨fun z => (nomatch z), fun z => ?_⟩
      exact absurd hp fun hp => (List.nodup_append.mp z).2.2 p hp p List.mem_cons_self rfl
    · rw [if_neg hp, dupP_none (ps := r) (seen := seen ++ [p]) (by
        rw [List.nodup_append]
        exact ⟨h, by simp, fun a ha b hb e => hp (by rw [List.mem_singleton.mp hb] at e; rw [← e]; exact ha)⟩), List.append_assoc]
      rfl
theorem dupP_hit {p : Str} {r : List Str} : ∀ {l seen : List Str}, (seen ++ l).Nodup → p ∈ seen ++ l → dupP seen (l ++ p :: r) = some p
  | [], seen, _, h => by
    rw [List.append_nil] at h
    show (if p ∈ seen then some p else _) = _
    rw [if_pos h]
  | a :: l, seen, nd, h => by
    have ha : a ∉ seen := fun z => (List.nodup_append.mp nd).2.2 a z a List.mem_cons_self rfl
    show (if a ∈ seen then some a else dupP (seen ++ [a]) (l ++ p :: r)) = _
    rw [if_neg ha]
    have e : seen ++ a :: l = (seen ++ [a]) ++ l := by rw [List.append_assoc]; rfl
    rw [e] at nd h
    exact dupP_hit nd h
theorem prd_zip {α β : Type} {F : α → β → Prop} : ∀ {l₁ : List α} {l₂ : List β}, Paired F l₁ l₂ → ∀ p ∈ l₁.zip l₂, F p.1 p.2
  | _, _, .nil, p, h => by cases h
  | _, _, .cons r t, p, h => by
    rcases List.mem_cons.mp h with rfl | h
    · exact r
    · exact prd_zip t p h
theorem prd_of {α β : Type} {F : α → β → Prop} : ∀ {l : List (α × β)}, (∀ p ∈ l, F p.1 p.2) → Paired F (l.map Prod.fst) (l.map Prod.snd)
  | [], _ => .nil
  | p :: l, h => .cons (h p List.mem_cons_self) (prd_of fun q hq => h q (List.mem_cons_of_mem _ hq))
theorem take_snoc {α : Type} {l : List α} {i : Nat} {a : α} (h : l[i]? = some a) : l.take (i + 1) = l.take i ++ [a] := by
  have hi := (List.getElem?_eq_some_iff.mp h).1
  rw [List.take_succ, h]; rfl
theorem drop_at {α : Type} {l : List α} {i : Nat} {a : α} (h : l[i]? = some a) : l = l.take i ++ a :: l.drop (i + 1) := by
  obtain ⟨hi, e⟩ := List.getElem?_eq_some_iff.mp h
  conv => lhs; rw [← List.take_append_drop i l, List.drop_eq_getElem_cons hi, e]
theorem nodup_snoc {α : Type} {l : List α} {a : α} (h : l.Nodup) (n : a ∉ l) : (l ++ [a]).Nodup := by
  rw [List.nodup_append]
  exact ⟨h, by simp, fun x hx b hb e => n (by rw [List.mem_singleton.mp hb] at e; rw [← e]; exact hx)⟩
theorem zip_get {α β : Type} {l : List α} {m : List β} {i : Nat} {a : α} {b : β} (h : l[i]? = some a) (g : m[i]? = some b) : (l.zip m)[i]? = some (a, b) := by
  rw [List.getElem?_zip_eq_some]
  exact ⟨h, g⟩
end L2

/-! methods of built-in types, the text's part K named (within a comprehension) -/
namespace L2
open PySem PySem.Spec PyProof.Rows
section
variable {X : Cx} {K : PySem.W.Frag} {o e : Expr} {es : List Expr} {to te : TE} {t : TA} {name : Str} {p apos cpos : Pos} {T id : String} {r : V → List V → Hp → VK → Prop}
theorem pe_bmK (pa : PlainAttrs T) (slot : Slot T name id) (hty : typeOf (.builtin id) = pure (.type "method_descriptor")) (hm : MtR X id r) (ho : PE X o to) (ha : PA X (e :: es) t)
    (hbase : attributeBase o name X.env (eval o X.env) = eval o X.env := by rfl)
    (hfew : ((backTo cpos (starEach (e :: es) X.env)).all (fun x => !x.1) && (backToKw cpos (keywordEach [] X.env)).all (fun x => x.1.isSome)
      && decide ((e :: es).length + ([] : List Keyword).length + (if ([] : List Keyword).isEmpty then 0 else 1) < 30)) = true := by rfl)
    (hline : (apos.endLine == cpos.line) = true := by rfl) (hs : starEach (e :: es) X.env = (false, eval e X.env) :: starEach es X.env := by rfl) (hplain : (backTo cpos (starEach es X.env)).any (·.1) = false := by rfl) (hK : X.K = K := by rfl) :
    PE X (.Call (.Attribute o name apos) (e :: es) [] cpos) (tBM K T r to t) := hK ▸ pe_bm pa slot hty hm ho ha hbase hfew hline hs hplain
theorem pe_bm0K (pa : PlainAttrs T) (slot : Slot T name id) (hty : typeOf (.builtin id) = pure (.type "method_descriptor")) (hm : MtR X id r) (ho : PE X o to)
    (hbase : attributeBase o name X.env (eval o X.env) = eval o X.env := by rfl) (hline : (apos.endLine == cpos.line) = true := by rfl) (hK : X.K = K := by rfl) : PE X (.Call (.Attribute o name apos) [] [] cpos) (tBM0 K T r to) := hK ▸ pe_bm0 pa slot hty hm ho hbase hline
theorem pa_starK (he : PE X e te) (hr : PA X es t) (hs : starEach (.Starred e p :: es) X.env = (true, eval e X.env) :: starEach es X.env := by rfl) (hK : X.K = K := by rfl) : PA X (.Starred e p :: es) (StX.tStar K te t) := hK ▸ StX.pa_star he hr hs
theorem cr_sortedSK (hK : X.K = K := by rfl) : CallR X (.builtin "sorted") (rSortedS K) := hK ▸ cr_sortedS
end
end L2

/-! {**d, k: v}. -/
namespace PySem
open Sem (wp)
section
variable {prog : Program} {w : World} {K : Type} [DecidableEq K] {knd : KeyKind prog w K} {A : Around} {E : Value → Shared → Prop} {s : Shared}
theorem wpAny_dictPut_pairs {d : Addr} {kvs : List (K × Value)} {k : K} {key v : Value} {Q : Unit → Shared → Prop} (hkey : knd.is k key = true) (hm : s.heap.DictOf knd d kvs)
    (hQ : ∀ h', h'.DictOf knd d (stored kvs k v) → Heap.SameBut d s.heap h' → Q () { s with heap := h' })
    (hsz : kvs.length ≤ sizeLine := by size_fits) :
    wpAny (model prog w) A (dictPut d (knd.hash k) key v) Q E s := by
  obtain ⟨o, es, ep, ho, hc, hd, hk, hp, hn⟩ := hm
  have hes : es.size ≤ sizeLine := by have e1 := hp.length; have e2 : es.toList.length = es.size := by simp
                                      omega
  unfold dictPut
  refine wpAny_bind (wpAny_dictFind_of hkey ho hd hk ?_)
  have hidx : (es.findIdx? fun e => knd.is k e.key) = kvs.findIdx? fun kv => decide (kv.1 = k) := by
    rw [← hp.findIdx k]; obtain ⟨l⟩ := es; simp
  cases hi : es.findIdx? fun e => knd.is k e.key with
  | some i =>
    refine wpAny_updateDict ho hd (hQ _ ⟨_, _, ep, Heap.get?_update_self _ ho (Obj.isFreed_of_dict (Obj.data_mapDict hd _)),
      hc.mapDict _, Obj.data_mapDict hd _, hk.modify _ _, ?_, ?_⟩ (Heap.SameBut.update ..))
    · rw [stored, if_pos (any_of_findIdx_some (hidx ▸ hi))]
      have hl : (es.toList.findIdx? fun e => knd.is k e.key) = some i := by rw [← hi]; obtain ⟨l⟩ := es; simp
      have := hp.modify hn hl v
      obtain ⟨l⟩ := es
      simpa using this
    · rw [stored, if_pos (any_of_findIdx_some (hidx ▸ hi)), keys_map_store]; exact hn
  | none =>
    have hnot : k ∉ kvs.map (·.1) := not_mem_of_findIdx_none (hidx ▸ hi)
    have hany : ¬ (kvs.any fun kv => decide (kv.1 = k)) = true := by
      rw [List.any_eq_true]; rintro ⟨kv, hkv, he⟩
      exact hnot (List.mem_map.mpr ⟨kv, hkv, of_decide_eq_true he⟩)
    refine wpAny_updateDictKeys (hz := hes) ho hd (hQ _ ⟨_, _, ep + 1, Heap.get?_update_self _ ho (Obj.isFreed_of_dict (Obj.data_mapDictKeys hd _)),
      hc.mapDictKeys _, Obj.data_mapDictKeys hd _, hk.push hkey _, ?_, ?_⟩ (Heap.SameBut.update ..))
    · rw [stored, if_neg hany]
      have := hp.append hkey (knd.hash k) v
      obtain ⟨l⟩ := es
      simpa using this
    · rw [stored, if_neg hany, List.map_append, List.nodup_append]
      refine ⟨hn, by simp, ?_⟩
      intro a ha b hb
      simp only [List.map_cons, List.map_nil, List.mem_singleton] at hb
      subst hb
      exact fun e => hnot (e ▸ ha)
theorem wpAny_mergeMapping {d o : Addr} {kvs more : List (K × Value)} {Q : Unit → Shared → Prop} (hdo : d ≠ o) (hoS : (o == sysModules) = false) (flat : ∀ k v, knd.is k v = true → ∀ a, v ≠ .ref a)
    (hd : s.heap.DictOf knd d kvs) (ho : s.heap.DictOf knd o more)
    (hQ : ∀ h', h'.DictOf knd d (merged kvs more) → Heap.SameBut d s.heap h' → Q () { s with heap := h' })
    (hsz : kvs.length + more.length ≤ sizeLine := by size_fits) :
    wpAny (model prog w) A (mergeMapping d (.ref o) false) Q E s := by
  obtain ⟨od, esd, epd, hod, hcd, hdd, hkd, hpd, hnd⟩ := id hd
  obtain ⟨oo, eso, epo, hoo, hco, hdo', hko, hpo, hno⟩ := id ho
  have hlen : more.length = eso.size := by rw [← hpo.length]; simp
  have loop : wpAny (model prog w) A (do
      let l ← dictEntries o
      let epoch ← dictEpoch o
      forIn (List.range l.size) PUnit.unit fun i (_ : PUnit) => (do
          let l' ← dictEntries o
          match l'[i]? with
            | some e => do
              holding [e.key, e.val] (dictPut d e.hash e.key e.val)
              let ep' ← dictEpoch o
              if (ep' != epoch) = true then do
                  (unsupported "dict.changed-during-merge" : Sem PUnit)
                  pure (ForInStep.yield PUnit.unit)
                else pure (ForInStep.yield PUnit.unit)
            | _ => do
              (unsupported "dict.changed-during-merge" : Sem PUnit)
              pure (ForInStep.yield PUnit.unit) : Sem (ForInStep PUnit))
      pure ()) Q E s := by
    refine wpAny_bind (wpAny_dictEntries hoo hdo' ?_)
    refine wpAny_bind (wpAny_dictEpoch hoo hdo' ?_)
    refine wpAny_bind ?_
    refine wpAny_forIn_list _
      (fun rest _ s' => ∃ h' i, s' = { s with heap := h' } ∧ rest = (List.range eso.size).drop i ∧ i ≤ eso.size ∧ h'.DictOf knd d (merged kvs (more.take i)) ∧ h'.get? o = some oo ∧ Heap.SameBut d s.heap h')
      _ ?_ ?_ _ _ ⟨s.heap, 0, rfl, by simp, Nat.zero_le _, by simpa [merged] using hd, hoo, Heap.SameBut.refl _ _⟩
    · rintro x rest b s' ⟨h', i, rfl, hr, hi, hd', hoo', hs'⟩
      have hlt : i < eso.size := by
        rcases Nat.lt_or_ge i eso.size with h | h
        · exact h
        · rw [List.drop_eq_nil_of_le (by simpa using h)] at hr; cases hr
      obtain ⟨rfl, hrest⟩ : x = i ∧ rest = (List.range eso.size).drop (i + 1) := by
        rw [List.drop_eq_getElem_cons (by simpa using hlt)] at hr
        injection hr with h1 h2
        exact ⟨by rw [h1]; simp, h2⟩
      refine wpAny_bind (wpAny_dictEntries hoo' hdo' ?_)
      rw [Array.getElem?_eq_getElem hlt]
      obtain ⟨kv, hkv⟩ : ∃ kv, more[x]? = some kv := ⟨more[x]'(by rw [hlen]; exact hlt), List.getElem?_eq_getElem _⟩
      obtain ⟨k, v⟩ := kv
      obtain ⟨hkey, hval⟩ := hpo.get? (e := eso[x]) (by simp [hlt]) hkv
      obtain ⟨k', hkey', hhash⟩ := hko eso[x] (Array.getElem_mem hlt)
      obtain rfl : k' = k := knd.inj _ _ _ hkey' hkey
      show wpAny _ _ (holding [eso[x].key, eso[x].val] (dictPut d eso[x].hash eso[x].key eso[x].val) >>= _) _ _ _
      rw [hhash, hval]
      have hmx : (merged kvs (more.take x)).length ≤ sizeLine := by
        have e1 := merged_length_le kvs (more.take x)
        have e2 : (more.take x).length ≤ more.length := by rw [List.length_take]; omega
        omega
      refine wpAny_bind (wpAny_holding (wpAny_dictPut_pairs (hsz := hmx) hkey hd' fun h'' hd'' hs'' => ?_))
      have hoo'' : h''.get? o = some oo := (hs''.2 o (Ne.symm hdo)).trans hoo'
      refine wpAny_bind (wpAny_dictEpoch hoo'' hdo' ?_)
      rw [if_neg (by simp)]
      exact wpAny_pure ⟨h'', x + 1, rfl, hrest, hlt, by rw [merged_take_succ kvs more x (k', v) hkv]; exact hd'', hoo'', hs'.trans hs''⟩
    · rintro b s' ⟨h', i, rfl, hr, hi, hd', hoo', hs'⟩
      have hin : i = eso.size := by
        rcases Nat.lt_or_ge i eso.size with h | h
        · rw [List.drop_eq_getElem_cons (by simpa using h)] at hr; cases hr
        · exact Nat.le_antisymm hi h
      refine wpAny_pure (hQ h' ?_ hs')
      rw [hin, ← hlen, List.take_length] at hd'; exact hd'
  unfold mergeMapping
  refine wpAny_bind (wpAny_isInstance ho.typeIs isSubtype_dict_dict ?_)
  simp only [if_true]
  refine wpAny_bind (wpAny_specialOf ho.typeIs F.slot_dict_iter.lookup ?_)
  refine wpAny_bind (wpAny_pure ?_)
  simp only [beq_self_eq_true]
  rw [if_neg (by rw [hoS]; exact Bool.false_ne_true)]
  refine wpAny_bind (wpAny_dictEntries hod hdd ?_)
  have loop' := loop
  split
  · refine wpAny_bind (wpAny_dictEntries hoo hdo' ?_)
    refine wpAny_bind ?_
    rw [← Array.forIn_toList]
    refine wpAny_forIn_list _ (fun rest _ s' => s' = s ∧ ∀ e ∈ rest, e ∈ eso.toList) _ ?_ ?_ _ _ ⟨rfl, fun e h => h⟩
    · rintro e rest b s' ⟨rfl, hm⟩
      obtain ⟨k', hkey', _⟩ := hko e (by simpa using hm e List.mem_cons_self)
      have hf := flat k' e.key hkey'
      split
      · rename_i a ha; exact absurd ha (hf a)
      · exact wpAny_pure ⟨rfl, fun e h => hm e (List.mem_cons_of_mem _ h)⟩
    · rintro b s' ⟨rfl, _⟩
      simp only [Bool.false_eq_true, if_false]; exact loop'
  · simp only [Bool.false_eq_true, if_false]; exact loop'
end
end PySem

/-! tuple(d.items()); == and != of dicts with both answers. -/
namespace PySem.W
open PySem PySem.Calls PyProof.Rows PyProof.V PySem.Spec
section
variable {prog : Program} {w : World} {K : Type} [DecidableEq K] {knd : KeyKind prog w K} {A : Around} {E : Value → Shared → Prop} {s : Shared} {r d : Addr} {kvs : List (K × Value)} {ep : Nat}
theorem code_tuple_new_items {Q₁ : Value → Shared → Prop} (hh : A.handled = none) (hv : s.heap.IsItemsView r d) (hm : s.heap.DictAt knd d kvs ep) (hn : kvs.length ≤ sizeLine)
    (h : ∀ (h' : Heap) (tk : Nat) (as : List Addr), (∀ b o, s.heap.get? b = some o → h'.get? b = some o) → as.length = kvs.length → KdxG knd kvs s.heap.objs.size h' as →
      Q₁ (.ref h'.objs.size) { s with heap := h'.push { cls := .type "tuple", data := .seq (as.map Value.ref).toArray }, toks := tk }) :
    codeAny (model prog w) A (.call (.builtin "tuple.__new__") ⟨[.type "tuple", .ref r], []⟩) (wants Q₁ E) s := by
  refine codeAny_of_tree ?_
  show wpAny _ A.in1 (do checkBuiltinCall "tuple.__new__" ⟨[.type "tuple", .ref r], []⟩; again (.builtin "tuple.__new__" ⟨[.type "tuple", .ref r], []⟩)) _ _ s
  refine wpAny_bind (wpAny_of_eq (F.newCall_tuple_1 _) (wpAny_pure ⟨plainId_quiet F.plain_tuple_new _, codeAny_builtin F.entry_tuple_new ?_⟩))
  rw [Around.under_plainId F.plain_tuple_new _]
  have hsub := sub_tuple_self
  have hinit := init_tuple_lookup
  have hmh := madeHere_tuple
  have hTI : s.TypeIs (.ref r) "dict_items" := hv.typeIs
  have hh1 : A.in1.handled = none := hh
  wp_walk using wpAny_typeOf hTI, kdx_collect (A := A.in1) (knd := knd) (kvs := kvs) (ep := ep) hh1 hv hm hn
  intro h' tk as hk hl hG
  show wpAny _ _ (Builtin.Tuple.tupleExact (as.map Value.ref).toArray >>= fun v => ret v) _ _ _
  unfold Builtin.Tuple.tupleExact
  refine wpAny_bind (wpAny_newObj_type ?_ (by show (as.map Value.ref).toArray.size ≤ sizeLine; simp only [List.size_toArray, List.length_map]; omega))
  exact wpAny_pure (h h' tk as hk hl hG)
theorem call_tuple_items {Q : Value → Shared → Prop} (hh : A.handled = none) (hv : s.heap.IsItemsView r d) (hm : s.heap.DictAt knd d kvs ep) (hn : kvs.length ≤ sizeLine)
    (hQ : ∀ (h' : Heap) (tk : Nat) (as : List Addr), (∀ b o, s.heap.get? b = some o → h'.get? b = some o) → as.length = kvs.length → KdxG knd kvs s.heap.objs.size h' as →
      Q (.ref h'.objs.size) { s with heap := h'.push { cls := .type "tuple", data := .seq (as.map Value.ref).toArray }, toks := tk }) :
    wpAny (model prog w) A (call (.type "tuple") [.ref r]) Q E s := by
  refine callType_codes (Q₁ := fun obj s₁ => s₁.TypeIs obj "tuple" ∧ Q obj s₁) F.called_tuple (F.typeCall_tuple_1 _) F.entry_object_init
    (code_tuple_new_items (A := A.in1) hh hv hm hn fun h' tk as hk hl hG => ⟨⟨_, Heap.get?_push_size _ rfl, rfl⟩, hQ h' tk as hk hl hG⟩) fun obj s₁ h₁ => ?_
  exact ⟨h₁.1, F.args_object_init_2 obj _, object_init_meets F.called_tuple.init.lookup F.called_tuple.made (by decide) prog w A.in1 _ s₁ ⟨h₁.1, rfl, h₁.2⟩⟩
end
end PySem.W
namespace L2
open PySem PySem.Spec PyProof.Rows LiI
/-- tuple(d.items()) -/
def rItemsT : V → Hp → VK → Prop := fun x H Q => ∃ (d : Addr) (kvs : List (Key × V)), x = .ref d ∧ H d = some (.dK kvs) ∧
  ∀ (H' : Hp) (p : Addr) (ts : List Addr), (∀ b o, H b = some o → H' b = some o) → H p = none → (∀ t ∈ ts, H t = none) → p ∉ ts → H' p = some (.tup (ts.map V.ref)) → Paired (fun (t : Addr) (q : Key × V) => H' t = some (.tup [kV q.1, q.2])) ts kvs → Q (.ref p) H'
def tTupItems (te : TE) : TE := fun σ H Q => te σ H fun x H1 => rItemsT x H1 Q
section
variable {X : Cx} {e : Expr} {te : TE} {p apos cpos pos : Pos}
theorem items_laidT {pins : List (Addr × Obj)} {σ : L2.St} {H : Hp} {s : Shared} {h' : Heap} {tk : Nat} {kvs : List (Key × V)} {vs : List (Key × Value)} {as : List Addr} (I : Inv X pins σ H s) (hz : kvs.length ≤ sizeLine) (kv : KV kvs vs)
    (hk : ∀ b o, s.heap.get? b = some o → h'.get? b = some o) (hl : as.length = vs.length) (hG : PySem.W.KdxG (mixKind X.prog X.w) vs s.heap.objs.size h' as) :
    ∃ H' : Hp, (∀ b o, H b = some o → H' b = some o) ∧ H h'.objs.size = none ∧ (∀ t ∈ as, H t = none) ∧ h'.objs.size ∉ as ∧ H' h'.objs.size = some (.tup (as.map V.ref)) ∧ Paired (fun (t : Addr) (q : Key × V) => H' t = some (.tup [kV q.1, q.2])) as kvs ∧
      Inv X pins σ H' { s with heap := h'.push { cls := .type "tuple", data := .seq (as.map Value.ref).toArray }, toks := tk } := by
  have lk : kvs.length = vs.length := Paired.length kv
  have nd : as.Nodup := List.Pairwise.imp (fun {a b} (h : a < b) => Nat.ne_of_lt h) hG.rise
  have new : ∀ t ∈ as, H t = none := fun t ht => I.hok.fresh (Nat.le_of_lt (hG.above t ht))
  have atP := putT_at as kvs H (by omega) nd
  have low : ∀ b o, s.heap.get? b = some o → b ∉ as := fun b o e z => absurd (Heap.lt_size e) (Nat.not_lt.mpr (Nat.le_of_lt (hG.above b z)))
  have kp : ∀ b u, H b = some u → (putT H as kvs) b = some u := fun b u e => by
    rw [putT_off as kvs _ (fun z => by rw [new b z] at e; cases e)]
    exact e
  have I1 : Inv X pins σ (putT H as kvs) { s with heap := h', toks := tk } := by
    refine I.call' (ch := []) rfl ⟨fun b o q _ _ _ => hk b o q, fun b o q _ _ _ => ⟨o.slots, hk b o q⟩, fun b o q n _ => ?_, fun b o q _ => ⟨o, hk b o q⟩, fun b xs q => kp b _ q, fun b o u q => kp b _ q, fun b ps q => ⟨#[], by rw [kp b _ q]; simp⟩⟩ (fun b u q => ?_) I.bare fun b z => by simp at z
    · rw [putT_off as kvs _ (low b o q)]
      exact n
    · by_cases hb : b ∈ as
      · obtain ⟨j, pk, e1, e2, e3⟩ := paired_ix atP hb
        rw [e3] at q
        cases q
        obtain ⟨key, k, x, f1, f2, f3⟩ := hG.pairs j b e1
        obtain ⟨qv, g1, g2, g3⟩ := paired_get kv e2
        rw [f1] at g1
        cases g1
        have rk : RelV (kV pk.1) key := by
          rw [g2]
          exact relV_key (show keyIs k key = true from f2)
        exact ⟨by show 2 ≤ sizeLine; decide, [key, x], .cons rk (.cons g3 .nil), ⟨_, f3, rfl, _, rfl⟩⟩
      · rw [putT_off as kvs _ hb] at q
        exact (I.hok b u q).stay (fun d v _ y => hk d v y) (fun d y => kp d _ y) fun d xs y => kp d _ y
  have fresh2 : putT H as kvs h'.objs.size = none := I1.hok.fresh (Nat.le_refl _)
  have hnot : h'.objs.size ∉ as := fun z => Nat.lt_irrefl _ (hG.there z)
  have fresh : H h'.objs.size = none := by rw [putT_off as kvs _ hnot] at fresh2; exact fresh2
  refine ⟨upd (putT H as kvs) h'.objs.size (.tup (as.map V.ref)), fun b o q => ?_, fresh, new, hnot, upd_same .., ?_, ?_⟩
  · rw [upd_ne (fun z => by rw [z, fresh] at q; cases q)]
    exact kp b o q
  · have key : ∀ {as : List Addr} {kvs : List (Key × V)} {G : Hp} {a : Addr} {o : HO}, a ∉ as → Paired (fun (t : Addr) (p : Key × V) => G t = some (.tup [kV p.1, p.2])) as kvs → Paired (fun (t : Addr) (p : Key × V) => upd G a o t = some (.tup [kV p.1, p.2])) as kvs := by
      intro as kvs G a o hn hp
      induction hp with
      | nil => exact .nil
      | cons h t ih => exact .cons (by rw [upd_ne (fun z => hn (by rw [z]; exact List.mem_cons_self))]; exact h) (ih fun z => hn (List.mem_cons_of_mem _ z))
    exact key hnot atP
  · exact I1.laid (t' := tk) (fun b o e => Heap.get?_push_of_some _ e) (Nat.le_refl _) (show ObjOk X.prog X.w _ _ _ (.tup (as.map V.ref)) from ⟨by rw [List.length_map]; omega, as.map Value.ref, LiI.vals_refs as, IsTup.new _ _⟩)
theorem pe_tupItems (hc : X.calm = true) (he : PE X e te) (hg : Gl X "tuple") (hm : X.mg "tuple" = none) (hv : bootBuiltins "tuple" = some (.type "tuple")) (hbase : attributeBase e "items" X.env (eval e X.env) = eval e X.env := by rfl) (hline : (apos.endLine == cpos.line) = true := by rfl)
    (hs : starEach [.Call (.Attribute e "items" apos) [] [] cpos] X.env = (false, eval (.Call (.Attribute e "items" apos) [] [] cpos) X.env) :: starEach [] X.env := by rfl) :
    PE X (.Call (.Name "tuple" p) [.Call (.Attribute e "items" apos) [] [] cpos] [] pos) (tTupItems te) := by
  refine ⟨fun pins s σ H Q I hq => ?_⟩
  refine wpAny_Call_Name_kw (ld_blt I hg hm hv ?_)
  refine PyProof.Rows.callWith_type1 ?_ hs rfl
  rw [hs]
  show wpAny _ _ (spliced ((false, eval (.Call (.Attribute e "items" apos) [] [] cpos) X.env) :: backTo pos (starEach [] X.env))) _ _ s
  refine Calls.spliced_cons ?_
  refine wpAny_Call_method (T := "dict") (id := "dict.items") hbase rfl hline F.plainAttrs_dict F.slot_dict_items F.type_dict_items (thn (he.run pins s σ H _ I hq) fun u s1 ⟨x, H1, I1, rx, d, kvs, ex, hd, q⟩ => ?_)
  subst ex
  obtain rfl : u = Value.ref d := rx
  obtain ⟨hz, hs0, vs, kv, hdo⟩ := I1.hok d _ hd
  obtain ⟨ep, hat⟩ := hdo.dictAt
  have lk : kvs.length = vs.length := Paired.length kv
  have I2 : Inv X pins σ H1 { s1 with heap := s1.heap.push { cls := .type "dict_items", data := .fields #[.ref d] } } := I1.kept (t' := s1.toks) fun b ob q => Heap.get?_push_of_some _ q
  refine ⟨hdo.typeIs, hdo.mapOf.noDict, ?_⟩
  show wpAny _ _ (callWith cpos (.builtin "dict.items") [.ref d] [] []) _ X.xe s1
  refine method_meetsIn F.slot_dict_items F.entry_dict_items rfl (PySem.evalArgs_none ⟨rfl, hdo.typeIs, F.args_dict_items_1 _, _, meets_dict_items (mixKind X.prog X.w) d hs0, ⟨vs, hdo⟩, ?_⟩)
  refine Calls.spliced_nil ?_
  refine PySem.W.call_tuple_items (knd := mixKind X.prog X.w) (kvs := vs) (ep := ep) (I1.ok.hd hc) ⟨_, Heap.get?_push_size _ rfl, rfl, rfl⟩ (hat.push _) (by omega) fun h' tk as hk hl hG => ?_
  obtain ⟨H', k1, k2, k3, k4, k5, k6, J⟩ := items_laidT (tk := tk) I2 hz kv hk hl hG
  exact ⟨.ref _, H', J, rfl, q H' _ as k1 k2 k3 k4 k5 k6⟩
end
end L2

/-! {**d, k: v}, dict(d), == of dicts of data; enumerate(tuple); extend by a tuple. -/
namespace PySem
open Sem (wp)
open AutoSeq1 (wpAny_loadPart')
theorem meets_enumerate_newT (l : Addr) (items : Array Value) (n : Nat) (dct : Option Addr) (sl : Array (Option Value)) :
    Meets (Builtin.«enumerate.__new__» ⟨[.type "enumerate", .ref l], []⟩) (fun _ R s => s.heap.get? l = some { cls := .type "tuple", dict := dct, data := .seq items n, slots := sl } ∧
      R (.ok (.ret (.ref (s.heap.push { cls := .type "tuple_iterator", data := .fields #[.ref l, .int 0 0] }).objs.size)))
        { s with heap := (s.heap.push { cls := .type "tuple_iterator", data := .fields #[.ref l, .int 0 0] }).push { cls := .type "enumerate", data := .fields #[.none, .bool false, .ref s.heap.objs.size, rawInt 0, .none, .none] } }) :=
  .of_wp fun prog w A R s h => by
    obtain ⟨hp, g, d, tk, os⟩ := s; obtain ⟨hl, h⟩ := h
    have hsub := sub_enumerate
    have hL : Heap.IsTuple (Shared.heap ⟨hp, g, d, tk, os⟩) l items := ⟨_, hl, rfl, n, rfl⟩
    wp_walk using wpAny_loadPart' hl
    refine wpAny_stack_any fun st => wpAny_pure ?_
    split
    · rename_i c _ _ _ _ _
      cases (c == Value.type "enumerate")
      · wp_walk using wpAny_loadPart' hl, wpAny_pyIter_tuple hL
        exact ⟨_, rfl, h⟩
      · wp_walk using wpAny_loadPart' hl, wpAny_pyIter_tuple hL
        exact ⟨_, rfl, h⟩
    · wp_walk using wpAny_loadPart' hl, wpAny_pyIter_tuple hL
      exact ⟨_, rfl, h⟩
theorem list_extend_tupG (l : Addr) (items : Array Value) (n : Nat) (b : Addr) (items2 : Array Value) (n2 : Nat) (dd : Option Addr) (sl : Array (Option Value)) (hs0 : ¬(!items.isEmpty && Builtin.List.listTooLong (items.size + items2.size)) = true) (hs1 : items.size ≤ sizeLine) (hs2 : items.size + items2.size ≤ sizeLine + 1) :
    Meets (Builtin.«list.extend» ⟨[.ref l, .ref b], []⟩) (fun _ R s => s.heap.get? l = some { cls := .type "list", dict := none, data := .seq items n, slots := #[] } ∧ s.heap.get? b = some { cls := .type "tuple", dict := dd, data := .seq items2 n2, slots := sl } ∧ R (.ok (.ret Value.none)) { s with heap := s.heap.update l (Obj.mapSeq fun x => x ++ items2), toks := s.toks }) :=
  .of_wp fun prog w A R s h => by
    obtain ⟨hp, g, d, tk, os⟩ := s; obtain ⟨hl, hb, h⟩ := h; have f1 := AutoSeq1.idx_int; have f2 := AutoSeq1.sub_tuple_tuple; have f3 := AutoSeq1.sub_list_list; have f4 := AutoSeq1.sub_tuple_list; have f5 := AutoSeq1.sub_list_tuple;
    have hz' : (items ++ items2).size ≤ sizeLine + 1 := by rw [Array.size_append]; exact hs2
    wp_walk using (wpAny_updateSeq hl rfl (hz := hs1) (_hz' := hz')), wpAny_loadPart' hl, wpAny_loadPart' hb; exact ⟨_, rfl, h⟩
section
variable {prog : Program} {w : World} {A : Around} {E : Value → Shared → Prop} {s : Shared}
theorem call_enumerate_tuple {l : Addr} {items : Array Value} {Q : Value → Shared → Prop} (hL : s.heap.IsTuple l items)
    (h : ∀ h', IsEnum h' (s.heap.objs.size + 1) s.heap.objs.size 0 .none → h'.IsTupleIter s.heap.objs.size l 0 → h'.objs.size = s.heap.objs.size + 2 →
      (∀ b o, s.heap.get? b = some o → h'.get? b = some o) → Q (.ref (s.heap.objs.size + 1)) { s with heap := h' }) :
    wpAny (model prog w) A (call (.type "enumerate") [.ref l]) Q E s := by
  obtain ⟨⟨c, dct, dt, sl⟩, hl, hc, n, hd⟩ := hL
  replace hc : c = .type "tuple" := hc
  replace hd : dt = .seq items n := hd
  subst hc hd
  refine callType_new F.called_enumerate (by decide) (F.typeCall_enumerate_1 _) (F.newCall_enumerate_1 _) (fun obj => F.args_object_init_2 obj _) F.entry_enumerate_new
    (meets_enumerate_newT l items n dct sl) ⟨hl, ?_⟩
  have hz : (s.heap.push { cls := .type "tuple_iterator", data := .fields #[.ref l, .int 0 0] }).objs.size = s.heap.objs.size + 1 := Heap.size_push ..
  show _ ∧ _
  rw [hz]
  have he : IsEnum ((s.heap.push { cls := .type "tuple_iterator", data := .fields #[.ref l, .int 0 0] }).push
      { cls := .type "enumerate", data := .fields #[.none, .bool false, .ref s.heap.objs.size, rawInt 0, .none, .none] }) (s.heap.objs.size + 1) s.heap.objs.size 0 .none := by
    have := Heap.get?_push_size (s.heap.push { cls := .type "tuple_iterator", data := .fields #[.ref l, .int 0 0] })
      (o := { cls := .type "enumerate", data := .fields #[.none, .bool false, .ref s.heap.objs.size, rawInt 0, .none, .none] }) rfl
    rw [hz] at this; exact this
  refine ⟨⟨_, he, rfl⟩, h _ he ⟨_, Heap.get?_push_of_some _ (Heap.get?_push_size _ rfl), rfl, rfl⟩ (by rw [Heap.size_push, hz]) fun b o x => Heap.get?_push_of_some _ (Heap.get?_push_of_some _ x)⟩
end
end PySem
namespace L2
open PySem PySem.Spec PyProof.Rows
/-! ### enumerate(tuple) -/
def IteT (K : PySem.W.Frag) (a : Addr) : It :=
  ⟨fun i H => ∃ (xs : List V) (x : V), SqT K H a xs ∧ xs[i]? = some x, fun i H v H' => ∃ T x, v = .ref T ∧ H T = none ∧ H' = upd H T (.tup [.int (i : Nat), x]) ∧ ∀ xs, SqT K H a xs → xs[i]? = some x, fun i H => ∃ xs : List V, SqT K H a xs ∧ xs.length = i⟩
theorem turn_enumT {P : Program} {w : World} {K : PySem.W.Frag} {elts : List Expr} {kk : Nat} {tpos : Pos} (a e it : Addr) :
    Turn P w K (.Tuple elts kk tpos) (IteT K a) [e, it] e (fun i h => (∃ old, IsEnum h e it ((i : Nat) : Int) old) ∧ h.IsTupleIter it a i ∧ e ≠ it) where
  mem := by simp
  obj := fun i h st b hb => by
    obtain ⟨⟨old, he⟩, ⟨o, ho, hc, hd⟩, _⟩ := st
    have e' : b = e ∨ b = it := by simpa using hb
    rcases e' with z | z
    · rw [z]; exact ⟨_, he, fun v q => nomatch q⟩
    · rw [z]; exact ⟨o, ho, fun v q => by rw [hd] at q; cases q⟩
  keep := fun i h h' st k => let ⟨⟨old, he⟩, hi, hne⟩ := st; ⟨⟨old, k e (by simp) _ he⟩, hi.at fun o q => k it (by simp) o q, hne⟩
  item := by
    intro X hP hw hK hc i pins s σ H E I hf st hg
    subst hP hw hK
    obtain ⟨⟨old, he⟩, hit, hne⟩ := st
    obtain ⟨xs, x, hq, hx⟩ := hg
    obtain ⟨its, rv, p, hz⟩ := I.tuple hq
    obtain ⟨u, hu, ru⟩ := rv.get hx
    have hel : e < s.heap.objs.size := Heap.lt_size he
    have hil : it < s.heap.objs.size := by obtain ⟨_, q, _⟩ := hit; exact Heap.lt_size q
    have pT : s.heap.IsTuple a its.toArray := p
    have hae : a ≠ it := by
      intro z
      obtain ⟨o1, g1, c1, _⟩ := hit
      obtain ⟨o2, g2, c2, _⟩ := pT
      rw [z, g1] at g2
      cases g2
      rw [c1] at c2
      exact absurd c2 (by decide)
    have hef : e ∉ [it, a] := by
      intro z
      rcases List.mem_cons.mp z with z | z
      · exact hne z
      · have z := List.mem_singleton.mp z
        obtain ⟨o2, g2, c2, _⟩ := pT
        rw [← z] at g2
        have he2 : s.heap.get? e = some _ := he
        rw [he2] at g2
        cases g2
        injection c2 with c2
        exact absurd c2 (by decide)
    have hi' : i < its.toArray.size := by
      have := (List.getElem?_eq_some_iff.mp hu).1
      simpa using this
    refine wpAny_pyNext_enum_itemD (Draws.tuple (A := X.A.in1) (I.ok.hd hc) it a hae its.toArray) he ⟨hit, pT⟩ hi' hne hef fun x' h' tk hx' ho hit' hT hsz hk => ?_
    have ex : x' = u := by
      have hu' : its.toArray[i]? = some u := by simpa using hu
      rw [hu'] at hx'
      exact (Option.some.inj hx').symm
    subst ex
    refine ⟨_, rfl, wpAny_letOwnedTupleGo_enum (s := { s with heap := h', toks := tk + 1 }) ho fun h'' he' sb => ?_⟩
    have hT2 : h''.get? s.heap.objs.size = some { cls := .type "tuple", data := .seq #[.int i tk, x'] } := (sb.2 _ (Nat.ne_of_gt hel)).trans hT
    have new : ObjOk X.prog X.w (upd H s.heap.objs.size (.tup [.int (i : Nat), x])) h'' s.heap.objs.size (.tup [.int (i : Nat), x]) :=
      ⟨by show 2 ≤ sizeLine; decide, [.int i tk, x'], .cons ⟨_, rfl⟩ (.cons ru .nil), ⟨_, hT2, rfl, _, rfl⟩⟩
    have I1 : Inv X pins σ (upd H s.heap.objs.size (.tup [.int (i : Nat), x])) { s with heap := h'', toks := tk + 1 } :=
      I.turnedNew (ch := [e, it]) (fun b ob hb q => (sb.2 b (fun z => hb (by simp [z]))).trans (hk b ob (fun z => hb (by simp [z])) (fun z => hb (by simp [z])) q)) hf (Nat.le_refl _) new
    refine ⟨.ref s.heap.objs.size, _, I1, rfl, ⟨_, x, rfl, I.hok.fresh (Nat.le_refl _), rfl, fun ys hy => by rw [I.tuple_inj hy hq]; exact hx⟩, ⟨⟨x', ?_⟩, hit'.1.at fun o q => (sb.2 it (Ne.symm hne)).trans q, hne⟩, fun b hb => ?_⟩
    · have e1 : ((i + 1 : Nat) : Int) = (i : Int) + 1 := by omega
      rw [e1]; exact he'
    · have hb' : b < s.heap.objs.size := by
        have e' : b = e ∨ b = it := by simpa using hb
        rcases e' with z | z
        · rw [z]; exact hel
        · rw [z]; exact hil
      rw [upd_ne (Nat.ne_of_lt hb')]
      exact (hf b hb).1
  done := by
    intro X hP hw hK hc i pins s σ H E I hf st hg
    subst hP hw hK
    obtain ⟨⟨old, he⟩, hit, hne⟩ := st
    obtain ⟨xs, hq, hx⟩ := hg
    obtain ⟨its, rv, p, hz⟩ := I.tuple hq
    obtain ⟨f0, f1, f2, f3, f4, f5⟩ := hf it (by simp)
    have hl := rv.length
    have pT : s.heap.IsTuple a its.toArray := p
    have hae : a ≠ it := by
      intro z
      obtain ⟨o1, g1, c1, _⟩ := hit
      obtain ⟨o2, g2, c2, _⟩ := pT
      rw [z, g1] at g2
      cases g2
      rw [c1] at c2
      exact absurd c2 (by decide)
    have hlt : its.toArray.size = i := by simp only [List.size_toArray]; omega
    have hit' : s.heap.IsTupleIter it a its.toArray.size := by rw [hlt]; exact hit
    exact wpAny_pyNext_enum_endD (Draws.tuple (A := X.A.in1) (I.ok.hd hc) it a hae its.toArray) he ⟨hit', pT⟩ fun h' eb => ⟨rfl, I.turned (t' := s.toks) (fun b o hb q => eb b o hb q) f0 f1 f3 f4 f5⟩
  self := fun A i s Q E st h => let ⟨⟨_, he⟩, _⟩ := st; wpAny_pyIter_enum he h

def iEnumT (K : PySem.W.Frag) (ta : TA) : TI := fun σ H R => ta σ H fun vs H1 => ∃ a xs, vs = [.ref a] ∧ SqT K H1 a xs ∧ R (IteT K a) H1
theorem pi_enumT {X : Cx} {e : Expr} {ta : TA} {p pos tpos : Pos} {elts : List Expr} {kk : Nat} (hg : Gl X "enumerate") (hm : X.mg "enumerate" = none) (ha : PA X [e] ta) (hs : starEach [e] X.env = [(false, eval e X.env)] := by rfl) :
    PI X (.Tuple elts kk tpos) (.Call (.Name "enumerate" p) [e] [] pos) (iEnumT X.K ta) := by
  refine ⟨fun pins s σ H R I h => ?_⟩
  refine Call_ (ld_blt I hg hm boot_enumerate (PyProof.Rows.callWith_type1 (thn (ha.run pos pins s σ H _ I h) fun us s1 ⟨vs, H1, I1, r1, q1⟩ => ?_) hs rfl))
  obtain ⟨a, xs, ex, hq, q⟩ := q1
  subst ex
  cases r1 with
  | cons r rr =>
    cases rr
    cases r
    obtain ⟨its, rv, p', hz⟩ := I1.tuple hq
    refine call_enumerate_tuple (show s1.heap.IsTuple a its.toArray from p') fun h' he hit hsz hk => wpAny_pyIter_enum he ?_
    have I2 : Inv X pins σ H1 { s1 with heap := h' } := I1.kept (t' := s1.toks) hk
    refine ⟨s1.heap.objs.size + 1, [s1.heap.objs.size + 1, s1.heap.objs.size], _, _, H1, rfl, I2, turn_enumT a (s1.heap.objs.size + 1) s1.heap.objs.size, ⟨⟨.none, he⟩, hit, Nat.succ_ne_self _⟩, fun b hb => ?_, q⟩
    have e' : b = s1.heap.objs.size + 1 ∨ b = s1.heap.objs.size := by simpa using hb
    have hle : s1.heap.objs.size ≤ b := by
      rcases e' with z | z
      · rw [z]; exact Nat.le_add_right _ _
      · rw [z]; exact Nat.le_refl _
    exact I1.fpOk hle (I1.hok.fresh hle)
theorem pi_enumTK {X : Cx} {K : PySem.W.Frag} {e : Expr} {ta : TA} {p pos tpos : Pos} {elts : List Expr} {kk : Nat} (hg : Gl X "enumerate") (hm : X.mg "enumerate" = none) (ha : PA X [e] ta) (hK : X.K = K := by rfl) (hs : starEach [e] X.env = [(false, eval e X.env)] := by rfl) :
    PI X (.Tuple elts kk tpos) (.Call (.Name "enumerate" p) [e] [] pos) (iEnumT K ta) := hK ▸ pi_enumT hg hm ha hs
theorem walk_enumT {K : PySem.W.Frag} {a : Addr} {xs : List V} : Walk (IteT K a) xs.length (fun H => SqT K H a xs) (YPair (fun i => some (.int (i : Nat))) (fun i => xs[i]?)) := by
  refine ⟨fun i _ hi q => ⟨xs, xs[i], q, by simp [hi]⟩, fun _ q => ⟨xs, q, rfl⟩, fun i H v H' _ q y => ?_⟩
  obtain ⟨T, x, h1, h2, h3, h4⟩ := y
  exact ⟨T, .int (i : Nat), x, h1, h2, h3, rfl, h4 xs q⟩
/-! ### list.extend, of a list or a tuple -/
def rExtB (K : PySem.W.Frag) : V → List V → Hp → VK → Prop := fun x vs H Q => match x, vs with
  | .ref l, [.ref b] => ∃ xs zs, H l = some (.lst xs) ∧ ((H b = some (.lst zs)) ∨ H b = some (.tup zs)) ∧ xs.length + zs.length ≤ sizeLine ∧ Q .non (upd H l (.lst (xs ++ zs)))
  | _, _ => False
section
variable {X : Cx}
theorem mt_extendT : MtR X "list.extend" (fun x vs H Q => ∃ l b xs zs, x = .ref l ∧ vs = [.ref b] ∧ H l = some (.lst xs) ∧ H b = some (.tup zs) ∧ xs.length + zs.length ≤ sizeLine ∧ Q .non (upd H l (.lst (xs ++ zs)))) := by
  intro pins s σ H x vs v us Q I rx rv h
  obtain ⟨l, b, xs, zs, rfl, rfl, hH, hB, hz, q⟩ := h
  cases rx
  obtain ⟨u, rfl, ru⟩ := rv.one
  cases ru
  obtain ⟨z, its, n, r, hl, e⟩ := I.lstM hH
  obtain ⟨its2, r2, p2, z2⟩ := I.tuple (SqT.of hB)
  obtain ⟨⟨c2, d2, dt2, sl2⟩, e2, hc2, n2, hdt2⟩ := p2
  simp only at hc2 hdt2
  subst hc2 hdt2
  have hl2 := r2.length
  have hsz : its.toArray.size + its2.toArray.size ≤ sizeLine := by rw [List.size_toArray, List.size_toArray]; omega
  have hlong : ¬ (!its.toArray.isEmpty && Builtin.List.listTooLong (its.toArray.size + its2.toArray.size)) = true := by
    rw [notLongL hsz, Bool.and_false]
    exact Bool.false_ne_true
  refine call_meets F.slot_list_extend ⟨_, e, rfl⟩ F.entry_list_extend (F.args_list_extend_2 _ _)
    (list_extend_tupG l its.toArray n b its2.toArray n2 _ _ hlong (by rw [List.size_toArray]; omega) (by omega)) ⟨e, e2, ?_⟩
  refine ⟨.non, _, I.lset (its' := its ++ its2) hH e (by simp) (r.append r2) ?_, rfl, q⟩
  rw [List.length_append]
  omega
theorem mc_extB {K : PySem.W.Frag} : MtR X "list.extend" (rExtB K) := MtR.weak (MtR.or (r := rExtend) mt_extend mt_extendT) fun x vs H Q h => by
  unfold rExtB at h
  split at h
  · obtain ⟨xs, zs, h1, h2 | h2, h3, q⟩ := h
    · exact .inl ⟨_, _, xs, zs, rfl, rfl, h1, h2, h3, q⟩
    · exact .inr ⟨_, _, xs, zs, rfl, rfl, h1, h2, h3, q⟩
  · exact h.elim
/-! ### dict(d), dict(pairs) -/
theorem cc_dict {K : PySem.W.Frag} (hc : X.calm = true) (hK : X.K = K := by rfl) : CallR X (.type "dict") (fun xs H Q => (∃ (a : Addr) (kvs : List (Key × V)), xs = [.ref a] ∧ Rd H a (.dK kvs) ∧ ∀ p, H p = none → Q (.ref p) (upd H p (.dK kvs))) ∨
    ∃ (a : Addr) (ps : List Addr) (kvs : List (Key × V)), xs = [.ref a] ∧ SqL K H a (ps.map V.ref) ∧ Paired (fun p kv => SqT K H p [kV kv.1, kv.2]) ps kvs ∧ ∀ p, H p = none → Q (.ref p) (upd H p (.dK (mergeK [] kvs)))) := hK ▸ call_dictD.or (call_dictP hc)
end
/-! ### == of dicts whose values are flat, or lists or tuples of flat ones -/
inductive VEq (K : PySem.W.Frag) (H : Hp) : V → V → Bool → Prop
  | flat {x y : V} : flatV x = true → flatV y = true → VEq K H x y (eqV x y)
  | seq {p q : Addr} {xs ys : List V} : SqP K H p q xs ys → xs.all flatV = true → ys.all flatV = true → (p = q → eqVs xs ys = true) → VEq K H (.ref p) (.ref q) (eqVs xs ys)
inductive HitsD (K : PySem.W.Frag) (H : Hp) (ls : List (Key × V)) : List (Key × V) → Bool → Prop
  | nil : HitsD K H ls [] true
  | miss {k : Key} {v : V} {r : List (Key × V)} : valV ls k = none → HitsD K H ls ((k, v) :: r) false
  | hit {k : Key} {v y : V} {r : List (Key × V)} {e b : Bool} : valV ls k = some y → VEq K H v y e → HitsD K H ls r b → HitsD K H ls ((k, v) :: r) (e && b)
def rDD (ne : Bool) (K : PySem.W.Frag) : R2 := fun x y H Q => ∃ a b ks ls r, x = .ref a ∧ y = .ref b ∧ H a = some (.dK ks) ∧ H b = some (.dK ls) ∧ (ks.length = ls.length → HitsD K H ls ks r) ∧ Q (.bl (ne != (ks.length == ls.length && r))) H
section
variable {X : Cx}
theorem vEq_ok {pins : List (Addr × Obj)} {σ : St} {H : Hp} {s : Shared} {A : Around} (I : Inv X pins σ H s) (hu : A.units < cLine) {v y : V} {e : Bool} (h : VEq X.K H v y e) {u u' : Value} (ru : RelV v u) (ry : RelV y u') : SeqAt.EqAt A s u u' e := by
  cases h with
  | flat f1 f2 => exact eqAt_V ru ry f1 f2
  | @seq p q xs ys hs f1 f2 hr =>
    cases ru
    cases ry
    by_cases hpq : p = q
    · subst hpq
      rw [hr rfl]
      exact SeqAt.EqAt.same _
    · refine SeqAt.EqAt.of_refs hpq ?_
      rcases hs with ⟨h1, h2⟩ | ⟨h1, h2⟩
      · obtain ⟨its, r1, p1, z1⟩ := I.list h1
        obtain ⟨its2, r2, p2, z2⟩ := I.list h2
        by_cases hl : xs.length = ys.length
        · have hsz : its.toArray.size = its2.toArray.size := by rw [List.size_toArray, List.size_toArray, ← r1.length, ← r2.length, hl]
          have := SeqAt.RcAt.lists p1.isList p2.isList hsz hu (fun j a b => flatq_at (A := A.in1) r1 r2 f1 f2 j a b)
          rw [eqVs_all _ _ hl, r1.length, ← List.size_toArray]; exact this
        · have := SeqAt.RcAt.lists_lengths (A := A) p1.isList p2.isList (by simp only [List.size_toArray, ← r1.length, ← r2.length]; simpa using hl) hu
          rw [eqVs_ne hl]; exact this
      · obtain ⟨its, r1, p1, z1⟩ := I.tuple h1
        obtain ⟨its2, r2, p2, z2⟩ := I.tuple h2
        have := SeqAt.RcAt.tuples (A := A) (show s.heap.IsTuple p its.toArray from p1) (show s.heap.IsTuple q its2.toArray from p2) hu (fun j a b => flatq_at (A := A.in1) r1 r2 f1 f2 j a b)
        by_cases hl : xs.length = ys.length
        · have hsz : its.toArray.size = its2.toArray.size := by rw [List.size_toArray, List.size_toArray, ← r1.length, ← r2.length, hl]
          rw [min_all hsz] at this
          rw [eqVs_all _ _ hl, r1.length, ← List.size_toArray]; exact this
        · rw [eqVs_ne hl]
          have e : (its.toArray.size == its2.toArray.size) = false := by simp only [List.size_toArray, ← r1.length, ← r2.length]; simpa using hl
          rw [e, Bool.and_false] at this
          exact this
theorem hits_of {pins : List (Addr × Obj)} {σ : St} {H : Hp} {s : Shared} {A : Around} (I : Inv X pins σ H s) (hu : A.units + 64 < cLine) {ls : List (Key × V)} {vb : List (Key × Value)} (rb : KV ls vb) {ks : List (Key × V)} {r : Bool} (h : HitsD X.K H ls ks r) :
    ∀ {va : List (Key × Value)}, KV ks va → PySem.W.KeqHitsP X.prog X.w A s vb va r := by
  have look : ∀ k : Key, (valV ls k = none → valueAt vb k = none) ∧ ∀ y, valV ls k = some y → ∃ u, valueAt vb k = some u ∧ RelV y u := fun k => by
    have rr : RelO (valV ls k) (valueAt vb k) := rb.val k
    refine ⟨fun e => ?_, fun y e => ?_⟩
    · rw [e] at rr
      cases hv : valueAt vb k with
      | none => rfl
      | some u => rw [hv] at rr; exact rr.elim
    · rw [e] at rr
      exact rr.some_of
  induction h with
  | nil => intro va ra; cases ra; exact .nil
  | @miss k v r hm =>
    intro va ra
    cases ra with
    | @cons p q ps qs h t =>
      obtain ⟨k', u⟩ := q
      obtain ⟨h1, h2⟩ := h
      cases h1
      exact .miss ((look k).1 hm)
  | @hit k v y r e b hy he _ ih =>
    intro va ra
    cases ra with
    | @cons p q ps qs h t =>
      obtain ⟨k', u⟩ := q
      obtain ⟨h1, h2⟩ := h
      cases h1
      obtain ⟨u', e1, e2⟩ := (look k).2 y hy
      exact .hit e1 (SeqAt.EqAt.eqP (vEq_ok I (by omega) he h2 e2)) (ih t)
theorem op_eqDD (hu : X.A.units + 80 < cLine) : OpR X (compareOp .Eq) (rDD false X.K) := by
  intro pins s σ H x y v u Q I rx ry h
  obtain ⟨a, b, ks, ls, r, rfl, rfl, ea, eb, hits, q⟩ := h
  obtain rfl : v = Value.ref a := rx
  obtain rfl : u = Value.ref b := ry
  obtain ⟨_, ya, va, ra, da⟩ := (show ObjOk X.prog X.w H s.heap a (.dK ks) from I.hok a _ ea)
  obtain ⟨_, yb, vb, rb, db⟩ := (show ObjOk X.prog X.w H s.heap b (.dK ls) from I.hok b _ eb)
  show wpAny (model X.prog X.w) X.A (richCompare .Eq _ _) _ _ _
  have l1 : va.length = ks.length := by rw [← Paired.length ra]
  have l2 : vb.length = ls.length := by rw [← Paired.length rb]
  refine PySem.W.rcP_dicts (knd := mixKind X.prog X.w) (r := r) ya yb da db (by omega) (fun e => hits_of I (by show X.A.units + 1 + 64 < cLine; omega) rb (hits (by omega)) ra) _ _ ?_
  exact ⟨.bl (ks.length == ls.length && r), H, I, by rw [l1, l2]; rfl, by rw [bne_f] at q; exact q⟩
end
section
variable {X : Cx} {K : PySem.W.Frag}
theorem op_eqDDK (hu : X.A.units + 80 < cLine) (hK : X.K = K := by rfl) : OpR X (compareOp .Eq) (rDD false K) := hK ▸ op_eqDD hu
theorem Room.u80 {k : Nat} {A : Around} (r : Room k A) : A.units + 80 < cLine := by have := r.un; omega
theorem pe_revLK {e : Expr} {te : TE} {k : Nat} {p1 p2 p3 pos : Pos} (he : PE X e te) (hK : X.K = K := by rfl) : PE X (.Subscript e (.Slice none none (some (.UnaryOp .USub (.Constant (.int 1) k p1) p2)) p3) pos) (tRevL K te) := hK ▸ pe_revL he
end
/-! ### {**d, k: v} -/
def tDMrg (td tk tv : TE) : TE := fun σ H Q => ∀ p, H p = none → td σ (upd H p (.dK [])) fun x H1 => ∃ a kvs, x = .ref a ∧ a ≠ p ∧ Rd H1 a (.dK kvs) ∧ H1 p = some (.dK []) ∧ kvs.length < sizeLine ∧
  ∀ q, upd H1 p (.dK kvs) q = none → tk σ (upd (upd H1 p (.dK kvs)) q (.dK [])) fun y H2 => tv σ H2 fun z H3 => ∃ k, y = kV k ∧ H3 q = some (.dK []) ∧ H3 p = some (.dK kvs) ∧ Q (.ref p) (upd (upd H3 q (.dK [(k, z)])) p (.dK (putK kvs k z)))
section
variable {X : Cx} {d k v : Expr} {td tk tv : TE} {pos : Pos}
theorem fl_mix {P : Program} {w : World} : ∀ k v, (mixKind P w).is k v = true → ∀ a, v ≠ .ref a := by
  rintro k v h a rfl
  cases k <;> exact absurd h Bool.false_ne_true
theorem pe_dmrg (hd : PE X d td) (hk : PE X k tk) (hv : PE X v tv) : PE X (.Dict [none, some k] [d, v] pos) (tDMrg td tk tv) := by
  refine ⟨fun pins s σ H Q I q => ?_⟩
  rw [arm_eval_Dict]
  refine wpAny_bind (wpAny_standAt ?_)
  show wpAny _ _ (dictDisplay [(none, (do let x ← eval d X.env; standAt pos; pure x)), (some (eval k X.env), (do let x ← eval v X.env; standAt pos; pure x))]) _ _ s
  unfold dictDisplay
  simp only [List.forIn_cons, List.forIn_nil]
  refine wpAny_bind (wpAny_bind (wpAny_bind ?_))
  rw [if_pos (show ([] : List (Sem Value × Sem Value)).isEmpty = true from rfl)]
  refine wpAny_pure ?_
  refine wpAny_bind (wpAny_alloc ?_)
  have hn := I.hok.fresh (Nat.le_refl s.heap.objs.size)
  have I1 := I.laid (a := s.heap.objs.size) (o := .dK []) (h' := s.heap.push { cls := .type "dict", data := .dict #[] }) (t' := s.toks) (fun _ _ q => Heap.get?_push_of_some _ q) (Nat.le_refl _) (dk_empty s.heap I.big)
  generalize hp : s.heap.objs.size = p at *
  refine wpAny_bind (wpAny_holding ?_)
  refine wpAny_bind (thn (hd.run pins _ σ _ _ I1 (q _ hn)) fun u s1 ⟨x, H1, I2, rx, a, kvs, ex, hap, ha, hp1, hz, q1⟩ => wpAny_bind (wpAny_standAt (wpAny_pure ?_)))
  subst ex
  obtain rfl : u = Value.ref a := rx
  obtain ⟨z0, hdS, vs0, r0, dd0⟩ := dk_of I2.hok hp1
  cases r0
  obtain ⟨z1, haS, vs, kv, dd⟩ := dk_rd I2.hok ha
  have lk : kvs.length = vs.length := Paired.length kv
  have ndv : (vs.map (·.1)).Nodup := let ⟨_, _, _, _, _, _, _, _, hn⟩ := dd; hn
  have flat : ∀ k v, (mixKind X.prog X.w).is k v = true → ∀ a, v ≠ .ref a := fl_mix
  refine wpAny_bind (wpAny_onRaise (wpAny_tryCatch (wpAny_onRaise (wpAny_holding (wpAny_mergeMapping (knd := mixKind X.prog X.w) hap.symm haS flat dd0 dd (hsz := by rw [List.length_nil]; omega) fun h' hd' hs => ?_)))))
  rw [merged_nil_of_nodup vs ndv] at hd'
  have he : ∃ q, h'.get? p = some q := let ⟨q, _, _, hq, _⟩ := hd'; ⟨q, hq⟩
  have I3 := d_write (ob := .dK kvs) (t' := s1.toks) I2 (a := p) (by rw [hp1]; exact True.intro) hs he (dk_new z1 hdS kv hd')
  refine wpAny_pure ?_
  refine wpAny_bind ?_
  show wpAny _ _ (if ((1 : Nat) == 17) = true then _ else _) _ _ _
  rw [if_neg (show ¬ (((1 : Nat) == 17) = true) by decide)]
  refine wpAny_pure (wpAny_pure ?_)
  refine wpAny_bind ?_
  show wpAny _ _ (if (false : Bool) = true then _ else _) _ _ _
  rw [if_neg Bool.false_ne_true]
  show wpAny _ _ ((holding [Value.ref p] (subDict [(eval k X.env, do let x ← eval v X.env; standAt pos; pure x)])) >>= _) _ _ _
  have hn2 := I3.hok.fresh (Nat.le_refl _)
  have I4 := I3.laid (a := h'.objs.size) (o := .dK []) (h' := h'.push { cls := .type "dict", data := .dict #[] }) (t' := s1.toks) (fun _ _ q => Heap.get?_push_of_some _ q) (Nat.le_refl _) (dk_empty h' I3.big)
  have pr : PPs X pos [some k] [v] [(tk, tv)] := pps_cons hk hv pps_nil
  have qq : tPairs [(tk, tv)] σ (upd (upd H1 p (.dK kvs)) h'.objs.size (.dK [])) (fun ps H3 => match ps with
      | [(y, z)] => ∃ k, y = kV k ∧ H3 h'.objs.size = some (.dK []) ∧ H3 p = some (.dK kvs) ∧ Q (.ref p) (upd (upd H3 h'.objs.size (.dK [(k, z)])) p (.dK (putK kvs k z)))
      | _ => False) := q1 _ hn2
  refine wpAny_bind (wpAny_holding (wpAny_subDict (knd := mixKind X.prog X.w) (pairs := pairTrees [some k] [v] X.env pos) (by show 1 ≤ 15; decide) (thn (pr.run pins _ σ _ _ I4 qq) fun ws s3 h3 => ?_)))
  obtain ⟨ps, H3, I5, rel, q3⟩ := h3
  split at q3
  · rename_i y z
    obtain ⟨ky, rfl, g1, g2, q4⟩ := q3
    obtain ⟨rs, cr, rk⟩ := carries_of (P := X.prog) (w := X.w) (kvs := [(ky, z)]) rel
    obtain ⟨z5, hd5, vs5, r5, dd5⟩ := dk_of I5.hok g1
    cases r5
    refine ⟨rs, cr, dd5, fun h6 hd6 hs6 => ?_⟩
    obtain ⟨pr1, rfl⟩ : ∃ b, rs = [(ky, b)] := by
      cases rk with
      | cons h t =>
        cases t
        rename_i q
        obtain ⟨q1, q2⟩ := q
        exact ⟨q2, by have := h.1; simp only at this; subst this; rfl⟩
    have he6 : ∃ q, h6.get? h'.objs.size = some q := let ⟨q, _, _, hq, _⟩ := hd6; ⟨q, hq⟩
    have I6 := d_write (ob := .dK [(ky, z)]) (t' := s3.toks + ws.length) I5 (a := h'.objs.size) (by rw [g1]; exact True.intro) hs6 he6 (dk_new (by show 1 ≤ sizeLine; decide) hd5 rk hd6)
    have npq : p ≠ h'.objs.size := fun e => by rw [← e, upd_same] at hn2; cases hn2
    have g2' : upd H3 h'.objs.size (.dK [(ky, z)]) p = some (.dK kvs) := by rw [upd_ne npq]; exact g2
    obtain ⟨z7, hd7, vs7, r7, dd7⟩ := dk_of I6.hok g2'
    have l7 : kvs.length = vs7.length := Paired.length r7
    refine wpAny_bind (wpAny_onRaise (wpAny_holding (wpAny_mergeMapping (knd := mixKind X.prog X.w) npq hd5 flat dd7 hd6 (hsz := by show vs7.length + 1 ≤ sizeLine; omega) fun h8 hd8 hs8 => wpAny_pure (wpAny_pure ?_))))
    have he8 : ∃ q, h8.get? p = some q := let ⟨q, _, _, hq, _⟩ := hd8; ⟨q, hq⟩
    have rr : RelV z pr1 := by
      cases rk with
      | cons h t => exact h.2
    have I8 := d_write (ob := .dK (putK kvs ky z)) (t' := s3.toks + ws.length) I6 (a := p) (by rw [g2']; exact True.intro) hs8 he8 (dk_new (by have := length_putK kvs ky z; omega) hd7 (r7.put ky rr) hd8)
    exact ⟨.ref p, _, I8, rfl, q4⟩
  · exact q3.elim
end
/-! ### things by texts, in the order of a dict -/
section
variable {α : Type}
def getF (fs : List (Str × α)) (p : Str) : Option α := (fs.find? fun f => decide (f.1 = p)).map (·.2)
def putF' (fs : List (Str × α)) (p : Str) (x : α) : List (Str × α) := if (fs.any fun f => decide (f.1 = p)) = true then fs.map (fun f => if f.1 = p then (f.1, x) else f) else fs ++ [(p, x)]
def dropF (fs : List (Str × α)) (p : Str) : List (Str × α) := fs.filter fun f => decide (f.1 ≠ p)
/-- the pairs of a dict tell fs, its values by R -/
def FlR (R : V → α → Prop) (kvs : List (Key × V)) (fs : List (Str × α)) : Prop := Paired (fun kv f => kv.1 = Sum.inr f.1 ∧ R kv.2 f.2) kvs fs
theorem getF_nil {p : Str} : getF ([] : List (Str × α)) p = none := rfl
theorem getF_pos {f : Str × α} {r : List (Str × α)} {p : Str} (e : f.1 = p) : getF (f :: r) p = some f.2 := by simp [getF, List.find?_cons, e]
theorem getF_neg {f : Str × α} {r : List (Str × α)} {p : Str} (e : ¬ f.1 = p) : getF (f :: r) p = getF r p := by simp [getF, List.find?_cons, e]
theorem getF_isSome {p : Str} : ∀ {fs : List (Str × α)}, (getF fs p).isSome = decide (p ∈ fs.map Prod.fst)
  | [] => rfl
  | f :: r => by
    by_cases e : f.1 = p
    · rw [getF_pos e, decide_eq_true (by rw [List.map_cons, e]; exact List.mem_cons_self)]; rfl
    · rw [getF_neg e, getF_isSome]
      by_cases h : p ∈ r.map Prod.fst
      · rw [decide_eq_true h, decide_eq_true (by rw [List.map_cons]; exact List.mem_cons_of_mem _ h)]
      · rw [decide_eq_false h, decide_eq_false]
        intro z
        rw [List.map_cons] at z
        rcases List.mem_cons.mp z with z | z
        · exact e z.symm
        · exact h z
theorem getF_none {p : Str} {fs : List (Str × α)} : getF fs p = none ↔ p ∉ fs.map Prod.fst := by
  have h := getF_isSome (p := p) (fs := fs)
  cases e : getF fs p with
  | none => rw [e] at h; exact Iff.intro (fun _ => of_decide_eq_false h.symm) (fun _ => rfl)
  | some x => rw [e] at h; exact Iff.intro (fun z => nomatch z) (fun z => absurd (of_decide_eq_true h.symm) z)
theorem getF_mem {p : Str} {x : α} : ∀ {fs : List (Str × α)}, getF fs p = some x → (p, x) ∈ fs
  | [], h => nomatch h
  | f :: r, h => by
    by_cases e : f.1 = p
    · rw [getF_pos e] at h
      cases h
      subst e
      exact List.mem_cons_self
    · rw [getF_neg e] at h
      exact List.mem_cons_of_mem _ (getF_mem h)
theorem getF_of_mem {p : Str} {x : α} : ∀ {fs : List (Str × α)}, (fs.map Prod.fst).Nodup → (p, x) ∈ fs → getF fs p = some x
  | [], _, h => nomatch h
  | f :: r, nd, h => by
    rw [List.map_cons, List.nodup_cons] at nd
    rcases List.mem_cons.mp h with h | h
    · subst h; exact getF_pos rfl
    · have e : ¬ f.1 = p := fun e => nd.1 (e ▸ List.mem_map_of_mem (f := Prod.fst) h)
      rw [getF_neg e]
      exact getF_of_mem nd.2 h
theorem anyF {p : Str} {fs : List (Str × α)} : (fs.any fun f => decide (f.1 = p)) = (getF fs p).isSome := by
  induction fs with
  | nil => rfl
  | cons f r ih =>
    rw [List.any_cons]
    by_cases e : f.1 = p
    · rw [getF_pos e, decide_eq_true e]; rfl
    · rw [getF_neg e, decide_eq_false e, Bool.false_or, ih]
theorem getF_map {p q : Str} {x : α} : ∀ {fs : List (Str × α)}, getF (fs.map fun f => if f.1 = p then (f.1, x) else f) q = (getF fs q).map fun y => if q = p then x else y
  | [] => rfl
  | f :: r => by
    rw [List.map_cons]
    have k : (if f.1 = p then (f.1, x) else f).1 = f.1 := by split <;> rfl
    by_cases e : f.1 = q
    · rw [getF_pos (k.trans e), getF_pos e]
      by_cases h : f.1 = p
      · rw [if_pos h]; simp [← e, h]
      · rw [if_neg h]; simp [← e, h]
    · rw [getF_neg (by rw [k]; exact e), getF_neg e, getF_map]
theorem getF_app {p : Str} {gs : List (Str × α)} : ∀ {fs : List (Str × α)}, getF (fs ++ gs) p = (getF fs p).or (getF gs p)
  | [] => rfl
  | f :: r => by
    rw [List.cons_append]
    by_cases e : f.1 = p
    · rw [getF_pos e, getF_pos e]; rfl
    · rw [getF_neg e, getF_neg e, getF_app]
theorem getF_put {fs : List (Str × α)} {p q : Str} {x : α} : getF (putF' fs p x) q = if q = p then some x else getF fs q := by
  unfold putF'
  rw [anyF]
  cases e : getF fs p with
  | none =>
    rw [if_neg (show ¬ ((none : Option α).isSome = true) from Bool.false_ne_true), getF_app]
    by_cases h : q = p
    · subst h; rw [if_pos rfl, e, getF_pos rfl]; rfl
    · rw [if_neg h, getF_neg (fun z => h z.symm), getF_nil, Option.or_none]
  | some y =>
    rw [if_pos (show (some y).isSome = true from rfl), getF_map]
    by_cases h : q = p
    · subst h; rw [if_pos rfl, e]; simp
    · rw [if_neg h]; cases getF fs q <;> simp [h]
theorem getF_drop {fs : List (Str × α)} {p q : Str} : getF (dropF fs p) q = if q = p then none else getF fs q := by
  induction fs with
  | nil => unfold dropF; rw [List.filter_nil]; split <;> rfl
  | cons f r ih =>
    unfold dropF at ih ⊢
    by_cases e : f.1 = p
    · rw [List.filter_cons_of_neg (by simp [e]), ih]
      by_cases h : q = p
      · rw [if_pos h, if_pos h]
      · rw [if_neg h, if_neg h, getF_neg (fun z : f.1 = q => h (z.symm.trans e))]
    · rw [List.filter_cons_of_pos (by simp [e])]
      by_cases h : f.1 = q
      · rw [getF_pos h, getF_pos h, if_neg (fun z => e (h.trans z))]
      · rw [getF_neg h, getF_neg h, ih]
theorem keys_put {fs : List (Str × α)} {p : Str} {x : α} : (putF' fs p x).map Prod.fst = if p ∈ fs.map Prod.fst then fs.map Prod.fst else fs.map Prod.fst ++ [p] := by
  unfold putF'
  rw [anyF, getF_isSome]
  by_cases h : p ∈ fs.map Prod.fst
  · rw [decide_eq_true h, if_pos rfl, if_pos h, List.map_map]
    refine List.map_congr_left fun f _ => ?_
    show (if f.1 = p then (f.1, x) else f).1 = f.1
    split <;> rfl
  · rw [decide_eq_false h, if_neg (by decide), if_neg h, List.map_append]; rfl
theorem nodup_put {fs : List (Str × α)} {p : Str} {x : α} (h : (fs.map Prod.fst).Nodup) : ((putF' fs p x).map Prod.fst).Nodup := by
  rw [keys_put]
  split
  · exact h
  · rename_i n; exact nodup_snoc h n
theorem keys_drop {fs : List (Str × α)} {p : Str} : (dropF fs p).map Prod.fst = (fs.map Prod.fst).filter fun q => decide (q ≠ p) := by
  unfold dropF
  rw [List.filter_map]; rfl
theorem nodup_drop {fs : List (Str × α)} {p : Str} (h : (fs.map Prod.fst).Nodup) : ((dropF fs p).map Prod.fst).Nodup := by
  rw [keys_drop]
  exact h.sublist List.filter_sublist
theorem length_put {fs : List (Str × α)} {p : Str} {x : α} : (putF' fs p x).length ≤ fs.length + 1 := by
  unfold putF'
  split
  · rw [List.length_map]; omega
  · rw [List.length_append]; exact Nat.le_refl _
theorem length_drop {fs : List (Str × α)} {p : Str} : (dropF fs p).length ≤ fs.length := List.length_filter_le ..
theorem mem_put {fs : List (Str × α)} {p : Str} {x : α} {f : Str × α} (h : f ∈ putF' fs p x) : f = (p, x) ∨ f ∈ fs := by
  unfold putF' at h
  split at h
  · obtain ⟨g, hg, e⟩ := List.mem_map.mp h
    by_cases z : g.1 = p
    · rw [if_pos z, z] at e; exact .inl e.symm
    · rw [if_neg z] at e; exact .inr (e ▸ hg)
  · rcases List.mem_append.mp h with h | h
    · exact .inr h
    · exact .inl (List.mem_singleton.mp h)
variable {R R' : V → α → Prop} {kvs : List (Key × V)} {fs : List (Str × α)}
theorem FlR.mono (h : FlR R kvs fs) (m : ∀ v a, R v a → R' v a) : FlR R' kvs fs := prd_mono (fun _ _ q => ⟨q.1, m _ _ q.2⟩) h
theorem FlR.len (h : FlR R kvs fs) : kvs.length = fs.length := Paired.length h
theorem FlR.get (h : FlR R kvs fs) (p : Str) : match getF fs p with | some x => ∃ v, valV kvs (Sum.inr p) = some v ∧ R v x | none => valV kvs (Sum.inr p) = none := by
  unfold FlR at h
  induction h with
  | nil => exact rfl
  | @cons kv f _ _ r t ih =>
    obtain ⟨r1, r2⟩ := r
    by_cases e : f.1 = p
    · rw [getF_pos e]
      exact ⟨_, valV_pos (by rw [r1, e]), r2⟩
    · rw [getF_neg e, valV_neg (fun z => e (by rw [r1] at z; exact Sum.inr.inj z))]
      exact ih
theorem FlR.of_some (h : FlR R kvs fs) {p : Str} {x : α} (e : getF fs p = some x) : ∃ v, valV kvs (Sum.inr p) = some v ∧ R v x := by
  have := h.get p
  rw [e] at this; exact this
theorem FlR.of_none (h : FlR R kvs fs) {p : Str} (e : getF fs p = none) : valV kvs (Sum.inr p) = none := by
  have := h.get p
  rw [e] at this; exact this
theorem FlR.isSome (h : FlR R kvs fs) {p : Str} : (valV kvs (Sum.inr p)).isSome = decide (p ∈ fs.map Prod.fst) := by
  rw [← getF_isSome]
  have := h.get p
  cases e : getF fs p with
  | none => rw [e] at this; rw [show valV kvs (Sum.inr p) = none from this]; rfl
  | some x => rw [e] at this; obtain ⟨v, h1, _⟩ := this; rw [h1]; rfl
theorem FlR.any (h : FlR R kvs fs) {p : Str} : (kvs.any fun kv => decide (kv.1 = Sum.inr p)) = fs.any fun f => decide (f.1 = p) := by
  rw [valV_any, h.isSome, anyF, getF_isSome]
theorem FlR.put (h : FlR R kvs fs) {p : Str} {v : V} {x : α} (hv : R v x) : FlR R (putK kvs (Sum.inr p) v) (putF' fs p x) := by
  unfold putK putF'
  rw [h.any]
  split
  · rename_i hc
    clear hc
    unfold FlR at h ⊢
    induction h with
    | nil => exact .nil
    | @cons kv f _ _ r t ih =>
      obtain ⟨r1, r2⟩ := r
      rw [List.map_cons, List.map_cons]
      refine .cons ?_ ih
      by_cases e : f.1 = p
      · rw [if_pos e, if_pos (by rw [r1, e])]; exact ⟨r1, hv⟩
      · rw [if_neg e, if_neg (fun z => e (by rw [r1] at z; exact Sum.inr.inj z))]; exact ⟨r1, r2⟩
  · exact prd_app h (.cons ⟨rfl, hv⟩ .nil)
theorem FlR.at (h : FlR R kvs fs) {i : Nat} {k : Key} {v : V} (e : kvs[i]? = some (k, v)) : ∃ p x, fs[i]? = some (p, x) ∧ k = Sum.inr p ∧ R v x := by
  obtain ⟨⟨p, x⟩, h1, h2, h3⟩ := prd_get h e
  exact ⟨p, x, h1, h2, h3⟩
theorem FlR.merge : ∀ {fs : List (Str × α)} {kvs : List (Key × V)} {gs : List (Str × α)} {kws : List (Key × V)}, FlR R kvs fs → FlR R kws gs → FlR R (mergeK kws kvs) (fs.foldl (fun g f => putF' g f.1 f.2) gs) := by
  intro fs kvs gs kws h
  unfold FlR at h
  induction h generalizing gs kws with
  | nil => intro g; exact g
  | @cons kv f _ _ r t ih =>
    intro g
    obtain ⟨r1, r2⟩ := r
    obtain ⟨k, v⟩ := kv
    cases r1
    exact ih (g.put r2)
theorem put_fresh {fs : List (Str × α)} {p : Str} {x : α} (h : p ∉ fs.map Prod.fst) : putF' fs p x = fs ++ [(p, x)] := by
  unfold putF'
  rw [anyF, getF_isSome, decide_eq_false h, if_neg (by decide)]
theorem fold_fresh : ∀ {fs gs : List (Str × α)}, ((gs ++ fs).map Prod.fst).Nodup → fs.foldl (fun g f => putF' g f.1 f.2) gs = gs ++ fs
  | [], gs, _ => by rw [List.append_nil]; rfl
  | f :: r, gs, h => by
    rw [List.map_append, List.map_cons] at h
    have hn : f.1 ∉ gs.map Prod.fst := fun z => (List.nodup_append.mp h).2.2 _ z _ List.mem_cons_self rfl
    show r.foldl _ (putF' gs f.1 f.2) = _
    rw [put_fresh hn, fold_fresh (by
      rw [List.append_assoc, List.map_append]
      simpa using h), List.append_assoc]
    rfl
/-- dict(pairs), all keys unlike -/
theorem FlR.made (h : FlR R kvs fs) (nd : (fs.map Prod.fst).Nodup) : FlR R (mergeK [] kvs) fs := by
  have := FlR.merge h (gs := []) (kws := []) (.nil)
  rw [fold_fresh (by rw [List.nil_append]; exact nd), List.nil_append] at this
  exact this
end
/-! ### values -/
def RTup (H : Hp) : V → List Str → Prop := fun v ls => ∃ p, v = .ref p ∧ H p = some (.tup (ls.map V.str))
def RLst (H : Hp) : V → List Str → Prop := fun v ls => ∃ p, v = .ref p ∧ H p = some (.lst (ls.map V.str))
theorem RTup.same {H H' : Hp} {v : V} {ls : List Str} (h : RTup H v ls) (e : Same H H') : RTup H' v ls := by obtain ⟨p, h1, h2⟩ := h; exact ⟨p, h1, e _ _ h2⟩
theorem RLst.same {H H' : Hp} {v : V} {ls : List Str} (h : RLst H v ls) (e : Same H H') : RLst H' v ls := by obtain ⟨p, h1, h2⟩ := h; exact ⟨p, h1, e _ _ h2⟩
/-- a dict at d of texts to tuples of texts, to lists -/
def DcT (H : Hp) (d : Addr) (fs : List (Str × List Str)) : Prop := ∃ kvs, H d = some (.dK kvs) ∧ FlR (RTup H) kvs fs
/-- behind a lock -/
theorem SameB.unlock {s d : Addr} {H H' : Hp} {o u : HO} (hd : H d = some u) (e : SameB s (upd H d o) H') : SameB s H (upd H' d u) := fun b v n h => by
  by_cases z : b = d
  · subst z; rw [upd_same]; rw [hd] at h; exact h
  · rw [upd_ne z]; exact e b v n (by rw [upd_ne z]; exact h)
theorem Same.unlock {d : Addr} {H H' : Hp} {o u : HO} (hd : H d = some u) (e : Same (upd H d o) H') : Same H (upd H' d u) := fun b v h => by
  by_cases z : b = d
  · subst z; rw [upd_same]; rw [hd] at h; exact h
  · rw [upd_ne z]; exact e b v (by rw [upd_ne z]; exact h)
end L2

/-! List comprehensions with a test whose turns make objects. -/
namespace L2
open PySem PySem.Spec PyProof.Rows
section
variable {J : It} {α : Type} {xs : List α} {G : Hp → Prop} {Y : Nat → Hp → V → Hp → Prop}
theorem filter_snoc {α : Type} {l : List α} {i : Nat} {a : α} {p : α → Bool} (h : l[i]? = some a) : (l.take (i + 1)).filter p = (l.take i).filter p ++ (if p a = true then [a] else []) := by
  rw [take_snoc h, List.filter_append]
  congr 1
  by_cases hp : p a = true <;> simp [hp]
/-- a comprehension whose turns make objects; keep tells which are kept, R what is told of one; it stays true where the new list alone is written -/
theorem lc_fl {n : Nat} (w : Walk J n G Y) {g : TG} {tt : TT} {te : TE} {vs : List Nat} {σ : St} {H1 : Hp} {D : Addr} {Qd : Hp → Prop} (keep : α → Bool) (R : V → α → Hp → Prop) (hN : n = xs.length)
    (hR : ∀ y a H H' acc, H D = some (.lst acc) → SameB D H H' → R y a H → R y a H') (hD : H1 D = none) (hn : n ≤ 16000000) (hG : ∀ H, Same H1 H → G H)
    (hs : ∀ i a x H H' (Nx : V → Hp → Prop) (Nz : Hp → Prop), xs[i]? = some a → Same H1 H → Y i H x H' → (keep a = true → ∀ y H4, Same H H4 → R y a H4 → Nx y H4) → (keep a = false → ∀ H4, Same H H4 → Nz H4) →
      g x (wipe σ vs) H' fun σ2 H2 => wipe σ2 vs = wipe σ vs ∧ tt σ2 H2 fun b H3 => if b = true then te σ2 H3 Nx else Nz H3)
    (hd : ∀ H (ys : List V), Paired (fun y a => R y a H) ys (xs.filter keep) → Same H1 H → H D = some (.lst ys) → Qd H) :
    ∃ W : Nat → Nat → Hp → Prop, (∃ m, W 0 m (upd H1 D (.lst []))) ∧ ∀ i m H, W i m H →
      (J.stop i H ∧ Qd H) ∨ (J.go i H ∧ ∃ Nx : Hp → Prop, (∀ H', Nx H' → ∃ m', m' < m ∧ W (i + 1) m' H') ∧ ∀ x H', J.yld i H x H' → g x (wipe σ vs) H' fun σ2 H2 => wipe σ2 vs = wipe σ vs ∧ tt σ2 H2 fun b H3 =>
        if b = true then te σ2 H3 fun y H4 => ∃ acc, H4 D = some (.lst acc) ∧ acc.length < sizeLine ∧ Nx (upd H4 D (.lst (acc ++ [y]))) else Nx H3) := by
  subst hN
  refine lc_it w (fun i H => Same H1 H ∧ ∃ ys : List V, H D = some (.lst ys) ∧ Paired (fun y a => R y a H) ys ((xs.take i).filter keep)) ⟨Same.new hD, [], upd_same, by rw [List.take_zero]; exact .nil⟩ (fun i H _ p => hG H p.1) ?_ ?_
  · rintro i x H H' hi ⟨s1, ys, hD1, r⟩ y
    have ea : xs[i]? = some xs[i] := List.getElem?_eq_getElem hi
    have hl : ys.length ≤ xs.length := by
      have e1 : ys.length = ((xs.take i).filter keep).length := Paired.length r
      have e2 := List.length_filter_le keep (xs.take i)
      rw [List.length_take] at e2; omega
    refine hs i xs[i] x H H' _ _ ea s1 y (fun hk y H4 s4 ry => ⟨ys, s4 _ _ hD1, by rw [sizeLine_eq]; omega, (s1.trans s4).wr hD, ys ++ [y], upd_same, ?_⟩) fun hk H4 s4 => ⟨s1.trans s4, ys, s4 _ _ hD1, ?_⟩
    · rw [filter_snoc ea, if_pos hk]
      refine prd_app (prd_mono (fun y a q => hR y a _ _ _ (s4 _ _ hD1) SameB.at (hR y a _ _ _ hD1 (SameB.of s4) q)) r) (.cons ?_ .nil)
      exact hR _ _ _ _ _ (s4 _ _ hD1) SameB.at ry
    · rw [filter_snoc ea, if_neg (by rw [hk]; exact Bool.false_ne_true), List.append_nil]
      exact prd_mono (fun y a q => hR y a _ _ _ hD1 (SameB.of s4) q) r
  · rintro H ⟨s1, ys, hD1, r⟩
    rw [List.take_length] at r
    exact hd H ys r s1 hD1
end
/-! the items, the keys of a dict that tells fs -/
section
variable {α : Type} {R : V → α → Prop} {kvs : List (Key × V)} {fs : List (Str × α)} {d : Addr} {o : Obj}
theorem walk_itemsF (h : FlR R kvs fs) : Walk (Iti d o kvs) fs.length (fun H => H d = some (.frz o (.dK kvs))) (fun i H v H' => ∃ T p x y, v = .ref T ∧ H T = none ∧ H' = upd H T (.tup [.str p, y]) ∧ fs[i]? = some (p, x) ∧ R y x) := by
  rw [← h.len]
  refine walk_items.mono (fun _ h => h) fun i H x H' hi _ y => ?_
  obtain ⟨T, kx, vx, h1, h2, h3, h4, h5⟩ := y
  have ekv : kvs[i]? = some kvs[i] := List.getElem?_eq_getElem hi
  have h4' : (kvs[i]?).map (fun kv => kV kv.1) = some kx := h4
  have h5' : (kvs[i]?).map Prod.snd = some vx := h5
  rw [ekv] at h4' h5'
  obtain ⟨p, a, e1, e2, e3⟩ := h.at (i := i) (k := kvs[i].1) (v := kvs[i].2) ekv
  cases h4'; cases h5'
  refine ⟨T, p, a, _, h1, h2, ?_, e1, e3⟩
  rw [h3]
  show upd H T (HO.tup [kV kvs[i].1, kvs[i].2]) = _
  rw [e2]; rfl
theorem walk_keysF (h : FlR R kvs fs) : Walk (Itk d o kvs) fs.length (fun H => H d = some (.frz o (.dK kvs))) (fun i H x H' => H' = H ∧ ∃ p a, fs[i]? = some (p, a) ∧ x = .str p) := by
  rw [← h.len]
  refine walk_keys.mono (fun _ h => h) fun i H x H' hi _ y => ?_
  obtain ⟨h1, k, v, h2, h3⟩ := y
  obtain ⟨p, a, e1, e2, e3⟩ := h.at h2
  exact ⟨h1, p, a, e1, by rw [h3, e2]; rfl⟩
theorem walk_valuesF (h : FlR R kvs fs) : Walk (Itd d o kvs) fs.length (fun H => H d = some (.frz o (.dK kvs))) (fun i H x H' => H' = H ∧ ∃ p a, fs[i]? = some (p, a) ∧ R x a) := by
  rw [← h.len]
  refine walk_values.mono (fun _ h => h) fun i H x H' hi _ y => ?_
  obtain ⟨h1, k, h2⟩ := y
  obtain ⟨p, a, e1, e2, e3⟩ := h.at h2
  exact ⟨h1, p, a, e1, e3⟩
end
/-- the addresses of what was made -/
theorem refsP {α : Type} {F : Addr → α → Prop} : ∀ {ys : List V} {xs : List α}, Paired (fun y x => ∃ a, y = .ref a ∧ F a x) ys xs → ∃ as : List Addr, ys = as.map V.ref ∧ Paired F as xs
  | _, _, .nil => ⟨[], rfl, .nil⟩
  | _, _, .cons r t => by
    obtain ⟨a, e, h⟩ := r
    obtain ⟨as, e2, h2⟩ := refsP t
    exact ⟨a :: as, by rw [List.map_cons, ← e2, e], .cons h h2⟩
theorem valsP {α β : Type} {f : β → V} {F : β → α → Prop} : ∀ {ys : List V} {xs : List α}, Paired (fun y x => ∃ a, y = f a ∧ F a x) ys xs → ∃ as : List β, ys = as.map f ∧ Paired F as xs
  | _, _, .nil => ⟨[], rfl, .nil⟩
  | _, _, .cons r t => by
    obtain ⟨a, e, h⟩ := r
    obtain ⟨as, e2, h2⟩ := valsP t
    exact ⟨a :: as, by rw [List.map_cons, ← e2, e], .cons h h2⟩
end L2

/-! zip of two lists or two tuples. -/
namespace L2
open PySem PySem.Spec PyProof.Rows RZ
theorem pi_zipAK {X : Cx} {K : PySem.W.Frag} {e e2 : Expr} {ta : TA} {p pos tpos : Pos} {elts : List Expr} {kk : Nat} (hg : Gl X "zip") (hm : X.mg "zip" = none) (ha : PA X [e, e2] ta) (hK : X.K = K := by rfl)
    (hs : starEach [e, e2] X.env = (false, eval e X.env) :: starEach [e2] X.env := by rfl) (hpl : (backTo pos (starEach [e2] X.env)).any (·.1) = false := by rfl) :
    PI X (.Tuple elts kk tpos) (.Call (.Name "zip" p) [e, e2] [] pos) (iZipA K ta) := hK ▸ pi_zipA hg hm ha hs hpl
theorem walk_zipT {K : PySem.W.Frag} {a b : Addr} {xs ys : List V} {n : Nat} (hn : n = min xs.length ys.length) : Walk (ItzT K a b) n (fun H => SqT K H a xs ∧ SqT K H b ys) (YPair (fun i => xs[i]?) (fun i => ys[i]?)) := by
  subst hn
  refine ⟨fun i _ hi q => ?_, fun _ q => ⟨xs, ys, q.1, q.2, by omega⟩, fun i H v H' _ q y => ?_⟩
  · have h1 : i < xs.length := by omega
    have h2 : i < ys.length := by omega
    exact ⟨xs, ys, xs[i], ys[i], q.1, q.2, by simp [h1], by simp [h2]⟩
  · obtain ⟨T, x, z, h1, h2, h3, h4, h5⟩ := y
    exact ⟨T, x, z, h1, h2, h3, h4 xs q.1, h5 ys q.2⟩
end L2

namespace Toy
open PySem L2
def topS (i : Nat) : Stmt := PySem.Challenge.pw_sourcequeue_k08_reversed_patches.main.body.getD i (.Pass ⟨0, 0, 0, 0⟩)
abbrev s_BadName_XinitX : Stmt := inClass (topS 3) 0
abbrev N_BadName_XinitX : List Str := ["self", "name"]
theorem sc_BadName_XinitX : FnScope N_BadName_XinitX ["self", "name"] (defScope s_BadName_XinitX) := ⟨rfl, rfl, rfl, by decide +kernel, rfl, by decide +kernel, by decide +kernel⟩
abbrev s_BadHunk_XinitX : Stmt := inClass (topS 6) 0
abbrev N_BadHunk_XinitX : List Str := ["self", "index"]
theorem sc_BadHunk_XinitX : FnScope N_BadHunk_XinitX ["self", "index"] (defScope s_BadHunk_XinitX) := ⟨rfl, rfl, rfl, by decide +kernel, rfl, by decide +kernel, by decide +kernel⟩
abbrev s_BadPatch_XinitX : Stmt := inClass (topS 7) 0
abbrev N_BadPatch_XinitX : List Str := ["self", "path"]
theorem sc_BadPatch_XinitX : FnScope N_BadPatch_XinitX ["self", "path"] (defScope s_BadPatch_XinitX) := ⟨rfl, rfl, rfl, by decide +kernel, rfl, by decide +kernel, by decide +kernel⟩
abbrev s_is_word : Stmt := topS 14
abbrev N_is_word : List Str := ["text", "most", "letter"]
theorem sc_is_word : FnScope N_is_word ["text", "most"] (defScope s_is_word) := ⟨rfl, rfl, rfl, by decide +kernel, rfl, by decide +kernel, by decide +kernel⟩
abbrev s_is_name : Stmt := topS 15
abbrev N_is_name : List Str := ["text"]
theorem sc_is_name : FnScope N_is_name ["text"] (defScope s_is_name) := ⟨rfl, rfl, rfl, by decide +kernel, rfl, by decide +kernel, by decide +kernel⟩
abbrev s_is_path : Stmt := topS 16
abbrev N_is_path : List Str := ["text", "parts", "part"]
theorem sc_is_path : FnScope N_is_path ["text"] (defScope s_is_path) := ⟨rfl, rfl, rfl, by decide +kernel, rfl, by decide +kernel, by decide +kernel⟩
abbrev s_Tree_XinitX : Stmt := inClass (topS 17) 0
abbrev N_Tree_XinitX : List Str := ["self", "files", "path", "lines"]
theorem sc_Tree_XinitX : FnScope N_Tree_XinitX ["self", "files"] (defScope s_Tree_XinitX) := ⟨rfl, rfl, rfl, by decide +kernel, rfl, by decide +kernel, by decide +kernel⟩
abbrev s_Tree_files : Stmt := inClass (topS 17) 1
abbrev N_Tree_files : List Str := ["self", "path"]
theorem sc_Tree_files : FnScope N_Tree_files ["self"] (defScope s_Tree_files) := ⟨rfl, rfl, rfl, by decide +kernel, rfl, by decide +kernel, by decide +kernel⟩
abbrev s_Tree_file : Stmt := inClass (topS 17) 4
abbrev N_Tree_file : List Str := ["self", "path"]
theorem sc_Tree_file : FnScope N_Tree_file ["self", "path"] (defScope s_Tree_file) := ⟨rfl, rfl, rfl, by decide +kernel, rfl, by decide +kernel, by decide +kernel⟩
abbrev s_Tree_found : Stmt := inClass (topS 17) 5
abbrev N_Tree_found : List Str := ["self", "path"]
theorem sc_Tree_found : FnScope N_Tree_found ["self", "path"] (defScope s_Tree_found) := ⟨rfl, rfl, rfl, by decide +kernel, rfl, by decide +kernel, by decide +kernel⟩
abbrev s_Tree_put : Stmt := inClass (topS 17) 6
abbrev N_Tree_put : List Str := ["self", "path", "lines"]
theorem sc_Tree_put : FnScope N_Tree_put ["self", "path", "lines"] (defScope s_Tree_put) := ⟨rfl, rfl, rfl, by decide +kernel, rfl, by decide +kernel, by decide +kernel⟩
abbrev s_Tree_drop : Stmt := inClass (topS 17) 7
abbrev N_Tree_drop : List Str := ["self", "path", "own", "lines"]
theorem sc_Tree_drop : FnScope N_Tree_drop ["self", "path"] (defScope s_Tree_drop) := ⟨rfl, rfl, rfl, by decide +kernel, rfl, by decide +kernel, by decide +kernel⟩
abbrev s_Tree_XeqX : Stmt := inClass (topS 17) 8
abbrev N_Tree_XeqX : List Str := ["self", "other"]
theorem sc_Tree_XeqX : FnScope N_Tree_XeqX ["self", "other"] (defScope s_Tree_XeqX) := ⟨rfl, rfl, rfl, by decide +kernel, rfl, by decide +kernel, by decide +kernel⟩
abbrev s_Hunk_XinitX : Stmt := inClass (topS 19) 0
abbrev N_Hunk_XinitX : List Str := ["self", "at", "before", "after"]
theorem sc_Hunk_XinitX : FnScope N_Hunk_XinitX ["self", "at", "before", "after"] (defScope s_Hunk_XinitX) := ⟨rfl, rfl, rfl, by decide +kernel, rfl, by decide +kernel, by decide +kernel⟩
abbrev s_Hunk_growth : Stmt := inClass (topS 19) 1
abbrev N_Hunk_growth : List Str := ["self"]
theorem sc_Hunk_growth : FnScope N_Hunk_growth ["self"] (defScope s_Hunk_growth) := ⟨rfl, rfl, rfl, by decide +kernel, rfl, by decide +kernel, by decide +kernel⟩
abbrev s_Hunk_end : Stmt := inClass (topS 19) 2
abbrev N_Hunk_end : List Str := ["self"]
theorem sc_Hunk_end : FnScope N_Hunk_end ["self"] (defScope s_Hunk_end) := ⟨rfl, rfl, rfl, by decide +kernel, rfl, by decide +kernel, by decide +kernel⟩
abbrev s_Hunk_XeqX : Stmt := inClass (topS 19) 4
abbrev N_Hunk_XeqX : List Str := ["self", "other"]
theorem sc_Hunk_XeqX : FnScope N_Hunk_XeqX ["self", "other"] (defScope s_Hunk_XeqX) := ⟨rfl, rfl, rfl, by decide +kernel, rfl, by decide +kernel, by decide +kernel⟩
abbrev s_Change_XinitX : Stmt := inClass (topS 20) 1
abbrev N_Change_XinitX : List Str := ["self", "path"]
theorem sc_Change_XinitX : FnScope N_Change_XinitX ["self", "path"] (defScope s_Change_XinitX) := ⟨rfl, rfl, rfl, by decide +kernel, rfl, by decide +kernel, by decide +kernel⟩
abbrev s_Change_content : Stmt := inClass (topS 20) 3
abbrev N_Change_content : List Str := ["self"]
theorem sc_Change_content : FnScope N_Change_content ["self"] (defScope s_Change_content) := ⟨rfl, rfl, rfl, by decide +kernel, rfl, by decide +kernel, by decide +kernel⟩
abbrev s_Change_XeqX : Stmt := inClass (topS 20) 4
abbrev N_Change_XeqX : List Str := ["self", "other"]
theorem sc_Change_XeqX : FnScope N_Change_XeqX ["self", "other"] (defScope s_Change_XeqX) := ⟨rfl, rfl, rfl, by decide +kernel, rfl, by decide +kernel, by decide +kernel⟩
abbrev s_Edit_XinitX : Stmt := inClass (topS 21) 1
abbrev N_Edit_XinitX : List Str := ["self", "path", "hunks", "__class__", "index"]
theorem sc_Edit_XinitX : NdefX.NScope N_Edit_XinitX ["self", "path", "hunks"] ["__class__"] (defScope s_Edit_XinitX) := NdefX.nscope_by (by decide +kernel)
abbrev s_Edit_content : Stmt := inClass (topS 21) 2
abbrev N_Edit_content : List Str := ["self"]
theorem sc_Edit_content : FnScope N_Edit_content ["self"] (defScope s_Edit_content) := ⟨rfl, rfl, rfl, by decide +kernel, rfl, by decide +kernel, by decide +kernel⟩
abbrev s_Create_XinitX : Stmt := inClass (topS 22) 1
abbrev N_Create_XinitX : List Str := ["self", "path", "lines", "__class__"]
theorem sc_Create_XinitX : NdefX.NScope N_Create_XinitX ["self", "path", "lines"] ["__class__"] (defScope s_Create_XinitX) := NdefX.nscope_by (by decide +kernel)
abbrev s_Create_content : Stmt := inClass (topS 22) 2
abbrev N_Create_content : List Str := ["self"]
theorem sc_Create_content : FnScope N_Create_content ["self"] (defScope s_Create_content) := ⟨rfl, rfl, rfl, by decide +kernel, rfl, by decide +kernel, by decide +kernel⟩
abbrev s_Remove_XinitX : Stmt := inClass (topS 23) 1
abbrev N_Remove_XinitX : List Str := ["self", "path", "lines", "__class__"]
theorem sc_Remove_XinitX : NdefX.NScope N_Remove_XinitX ["self", "path", "lines"] ["__class__"] (defScope s_Remove_XinitX) := NdefX.nscope_by (by decide +kernel)
abbrev s_Remove_content : Stmt := inClass (topS 23) 2
abbrev N_Remove_content : List Str := ["self"]
theorem sc_Remove_content : FnScope N_Remove_content ["self"] (defScope s_Remove_content) := ⟨rfl, rfl, rfl, by decide +kernel, rfl, by decide +kernel, by decide +kernel⟩
abbrev s_Patch_XinitX : Stmt := inClass (topS 24) 0
abbrev N_Patch_XinitX : List Str := ["self", "name", "changes", "by_path", "change", "path"]
theorem sc_Patch_XinitX : FnScope N_Patch_XinitX ["self", "name", "changes"] (defScope s_Patch_XinitX) := ⟨rfl, rfl, rfl, by decide +kernel, rfl, by decide +kernel, by decide +kernel⟩
abbrev s_Patch_of : Stmt := inClass (topS 24) 1
abbrev N_Patch_of : List Str := ["cls", "name", "changes"]
theorem sc_Patch_of : FnScope N_Patch_of ["cls", "name", "changes"] (defScope s_Patch_of) := ⟨rfl, rfl, rfl, by decide +kernel, rfl, by decide +kernel, by decide +kernel⟩
abbrev s_Patch_XeqX : Stmt := inClass (topS 24) 4
abbrev N_Patch_XeqX : List Str := ["self", "other"]
theorem sc_Patch_XeqX : FnScope N_Patch_XeqX ["self", "other"] (defScope s_Patch_XeqX) := ⟨rfl, rfl, rfl, by decide +kernel, rfl, by decide +kernel, by decide +kernel⟩
abbrev s_first_wrong : Stmt := topS 26
abbrev N_first_wrong : List Str := ["lines", "hunks", "index", "hunk"]
theorem sc_first_wrong : FnScope N_first_wrong ["lines", "hunks"] (defScope s_first_wrong) := ⟨rfl, rfl, rfl, by decide +kernel, rfl, by decide +kernel, by decide +kernel⟩
abbrev s_edited : Stmt := topS 27
abbrev N_edited : List Str := ["lines", "hunks", "found", "end", "hunk"]
theorem sc_edited : FnScope N_edited ["lines", "hunks"] (defScope s_edited) := ⟨rfl, rfl, rfl, by decide +kernel, rfl, by decide +kernel, by decide +kernel⟩
abbrev s_applied : Stmt := topS 28
abbrev N_applied : List Str := ["tree", "change", "path", "there", "wrong"]
theorem sc_applied : FnScope N_applied ["tree", "change"] (defScope s_applied) := ⟨rfl, rfl, rfl, by decide +kernel, rfl, by decide +kernel, by decide +kernel⟩
abbrev s_apply_patch : Stmt := topS 29
abbrev N_apply_patch : List Str := ["tree", "patch", "change"]
theorem sc_apply_patch : FnScope N_apply_patch ["tree", "patch"] (defScope s_apply_patch) := ⟨rfl, rfl, rfl, by decide +kernel, rfl, by decide +kernel, by decide +kernel⟩
abbrev s_reversed_change : Stmt := topS 30
abbrev N_reversed_change : List Str := ["change", "hunks", "growth", "hunk"]
theorem sc_reversed_change : FnScope N_reversed_change ["change"] (defScope s_reversed_change) := ⟨rfl, rfl, rfl, by decide +kernel, rfl, by decide +kernel, by decide +kernel⟩
abbrev s_reversed_patch : Stmt := topS 31
abbrev N_reversed_patch : List Str := ["patch", "changes", "change"]
theorem sc_reversed_patch : FnScope N_reversed_patch ["patch"] (defScope s_reversed_patch) := ⟨rfl, rfl, rfl, by decide +kernel, rfl, by decide +kernel, by decide +kernel⟩
abbrev s_law_source : Stmt := topS 33
abbrev N_law_source : List Str := ["_law_script", "_law_index", "_law_cell"]
theorem sc_law_source : FnScope N_law_source ["_law_script", "_law_index"] (defScope s_law_source) := ⟨rfl, rfl, rfl, by decide +kernel, rfl, by decide +kernel, by decide +kernel⟩
abbrev s_law_draw : Stmt := topS 34
abbrev N_law_draw : List Str := ["_law_source_here", "_law_bound", "_law_digit", "_law_mixed"]
theorem sc_law_draw : FnScope N_law_draw ["_law_source_here", "_law_bound"] (defScope s_law_draw) := ⟨rfl, rfl, rfl, by decide +kernel, rfl, by decide +kernel, by decide +kernel⟩
abbrev s_law_some_lines : Stmt := topS 36
abbrev N_law_some_lines : List Str := ["_law_source_here", "_law_most", "_law_words", "_law_size", "_law_ends", "_law_found", "_law_number", "_law_line"]
theorem sc_law_some_lines : FnScope N_law_some_lines ["_law_source_here", "_law_most", "_law_words"] (defScope s_law_some_lines) := ⟨rfl, rfl, rfl, by decide +kernel, rfl, by decide +kernel, by decide +kernel⟩
abbrev s_law_drawn_tree : Stmt := topS 38
abbrev N_law_drawn_tree : List Str := ["_law_source_here", "_law_many", "_law_most", "_law_words", "_law_paths", "_law_files", "_law_number"]
theorem sc_law_drawn_tree : FnScope N_law_drawn_tree ["_law_source_here", "_law_many", "_law_most", "_law_words"] (defScope s_law_drawn_tree) := ⟨rfl, rfl, rfl, by decide +kernel, rfl, by decide +kernel, by decide +kernel⟩
abbrev s_law_built : Stmt := topS 40
abbrev N_law_built : List Str := ["_law_files", "_law_path"]
theorem sc_law_built : FnScope N_law_built ["_law_files"] (defScope s_law_built) := ⟨rfl, rfl, rfl, by decide +kernel, rfl, by decide +kernel, by decide +kernel⟩
abbrev s_law_exact_hunks : Stmt := topS 41
abbrev N_law_exact_hunks : List Str := ["_law_source_here", "_law_lines", "_law_many", "_law_words", "_law_rows", "_law_low", "_law_number", "_law_at", "_law_before", "_law_after", "_law_line"]
theorem sc_law_exact_hunks : FnScope N_law_exact_hunks ["_law_source_here", "_law_lines", "_law_many", "_law_words"] (defScope s_law_exact_hunks) := ⟨rfl, rfl, rfl, by decide +kernel, rfl, by decide +kernel, by decide +kernel⟩
abbrev s_law_exact_patch : Stmt := topS 42
abbrev N_law_exact_patch : List Str := ["_law_source_here", "_law_files", "_law_name", "_law_words", "_law_changes", "_law_path", "_law_way", "_law_rows", "_law_at", "_law_before", "_law_after"]
theorem sc_law_exact_patch : FnScope N_law_exact_patch ["_law_source_here", "_law_files", "_law_name", "_law_words"] (defScope s_law_exact_patch) := ⟨rfl, rfl, rfl, by decide +kernel, rfl, by decide +kernel, by decide +kernel⟩
abbrev s_law : Stmt := topS 43
abbrev N_law : List Str := ["_law_script", "_law_index", "_law_source_here", "_law_words", "_law_files", "_law_tree", "_law_patch", "_law_rows", "_law_long", "_law_at", "_law_before", "_law_after", "_law_one", "_law_back", "_law_paths", "_law_change", "_law_other", "_law_growth", "_law_hunk", "_law_twin", "_law_turned"]
theorem sc_law : FnScope N_law ["_law_script"] (defScope s_law) := ⟨rfl, rfl, rfl, by decide +kernel, rfl, by decide +kernel, by decide +kernel⟩
structure Ad where
  c_SourceError : Addr
  c_BadName : Addr
  c_BadPath : Addr
  c_NoFile : Addr
  c_BadHunk : Addr
  c_BadPatch : Addr
  c_Refused : Addr
  c_Tree : Addr
  c_Hunk : Addr
  c_Change : Addr
  c_Edit : Addr
  c_Create : Addr
  c_Remove : Addr
  c_Patch : Addr
  a_BadName_XinitX : Addr
  d_BadName_XinitX : FuncData
  a_BadHunk_XinitX : Addr
  d_BadHunk_XinitX : FuncData
  a_BadPatch_XinitX : Addr
  d_BadPatch_XinitX : FuncData
  a_is_word : Addr
  d_is_word : FuncData
  a_is_name : Addr
  d_is_name : FuncData
  a_is_path : Addr
  d_is_path : FuncData
  a_Tree_XinitX : Addr
  d_Tree_XinitX : FuncData
  a_Tree_files : Addr
  d_Tree_files : FuncData
  p_Tree_files : Addr
  a_Tree_file : Addr
  d_Tree_file : FuncData
  a_Tree_found : Addr
  d_Tree_found : FuncData
  a_Tree_put : Addr
  d_Tree_put : FuncData
  a_Tree_drop : Addr
  d_Tree_drop : FuncData
  a_Tree_XeqX : Addr
  d_Tree_XeqX : FuncData
  a_Hunk_XinitX : Addr
  d_Hunk_XinitX : FuncData
  a_Hunk_growth : Addr
  d_Hunk_growth : FuncData
  p_Hunk_growth : Addr
  a_Hunk_end : Addr
  d_Hunk_end : FuncData
  a_Hunk_XeqX : Addr
  d_Hunk_XeqX : FuncData
  a_Change_XinitX : Addr
  d_Change_XinitX : FuncData
  a_Change_content : Addr
  d_Change_content : FuncData
  a_Change_XeqX : Addr
  d_Change_XeqX : FuncData
  a_Edit_XinitX : Addr
  d_Edit_XinitX : FuncData
  cd_Edit_XinitX : Addr
  a_Edit_content : Addr
  d_Edit_content : FuncData
  a_Create_XinitX : Addr
  d_Create_XinitX : FuncData
  cd_Create_XinitX : Addr
  a_Create_content : Addr
  d_Create_content : FuncData
  a_Remove_XinitX : Addr
  d_Remove_XinitX : FuncData
  cd_Remove_XinitX : Addr
  a_Remove_content : Addr
  d_Remove_content : FuncData
  a_Patch_XinitX : Addr
  d_Patch_XinitX : FuncData
  a_Patch_of : Addr
  d_Patch_of : FuncData
  p_Patch_of : Addr
  a_Patch_XeqX : Addr
  d_Patch_XeqX : FuncData
  a_first_wrong : Addr
  d_first_wrong : FuncData
  a_edited : Addr
  d_edited : FuncData
  a_applied : Addr
  d_applied : FuncData
  a_apply_patch : Addr
  d_apply_patch : FuncData
  a_reversed_change : Addr
  d_reversed_change : FuncData
  a_reversed_patch : Addr
  d_reversed_patch : FuncData
  a_law_source : Addr
  d_law_source : FuncData
  a_law_draw : Addr
  d_law_draw : FuncData
  a_law_some_lines : Addr
  d_law_some_lines : FuncData
  a_law_drawn_tree : Addr
  d_law_drawn_tree : FuncData
  a_law_built : Addr
  d_law_built : FuncData
  a_law_exact_hunks : Addr
  d_law_exact_hunks : FuncData
  a_law_exact_patch : Addr
  d_law_exact_patch : FuncData
  a_law : Addr
  d_law : FuncData
structure Txt (P : Program) (K : PySem.W.Frag) (mg : Str → Option Value) (ad : Ad) : Prop where
  n_all : mg "all" = none
  n_enumerate : mg "enumerate" = none
  n_isinstance : mg "isinstance" = none
  n_len : mg "len" = none
  n_max : mg "max" = none
  n_min : mg "min" = none
  n_range : mg "range" = none
  n_sorted : mg "sorted" = none
  n_str : mg "str" = none
  n_tuple : mg "tuple" = none
  n_zip : mg "zip" = none
  hnx : PySem.W.specialIn K (.builtin "object.__class__") "__get__" = some (some (.builtin "getset_descriptor.__get__"))
  tkx : PySem.W.takesIn K (.builtin "object.__class__") = some true
  mg_Tree : mg "Tree" = some (.ref ad.c_Tree)
  cl_Tree : OCls K ad.c_Tree
  mk_Tree : Mk K ad.c_Tree ad.a_Tree_XinitX
  na_Tree_by_path : NoAttr K ad.c_Tree "by_path"
  na_Tree_sorted_paths : NoAttr K ad.c_Tree "sorted_paths"
  me_Tree_XinitX : Meth K ad.c_Tree "__init__" ad.a_Tree_XinitX
  pr_Tree_files : PropOf K ad.c_Tree "files" ad.p_Tree_files ad.a_Tree_files
  me_Tree_file : Meth K ad.c_Tree "file" ad.a_Tree_file
  me_Tree_found : Meth K ad.c_Tree "found" ad.a_Tree_found
  me_Tree_put : Meth K ad.c_Tree "put" ad.a_Tree_put
  me_Tree_drop : Meth K ad.c_Tree "drop" ad.a_Tree_drop
  me_Tree_XeqX : Meth K ad.c_Tree "__eq__" ad.a_Tree_XeqX
  mg_Hunk : mg "Hunk" = some (.ref ad.c_Hunk)
  cl_Hunk : OCls K ad.c_Hunk
  mk_Hunk : Mk K ad.c_Hunk ad.a_Hunk_XinitX
  na_Hunk_at : NoAttr K ad.c_Hunk "at"
  na_Hunk_before : NoAttr K ad.c_Hunk "before"
  na_Hunk_after : NoAttr K ad.c_Hunk "after"
  me_Hunk_XinitX : Meth K ad.c_Hunk "__init__" ad.a_Hunk_XinitX
  pr_Hunk_growth : PropOf K ad.c_Hunk "growth" ad.p_Hunk_growth ad.a_Hunk_growth
  me_Hunk_end : Meth K ad.c_Hunk "end" ad.a_Hunk_end
  me_Hunk_XeqX : Meth K ad.c_Hunk "__eq__" ad.a_Hunk_XeqX
  mg_Change : mg "Change" = some (.ref ad.c_Change)
  cl_Change : OCls K ad.c_Change
  mk_Change : Mk K ad.c_Change ad.a_Change_XinitX
  na_Change_path : NoAttr K ad.c_Change "path"
  me_Change_XinitX : Meth K ad.c_Change "__init__" ad.a_Change_XinitX
  me_Change_content : Meth K ad.c_Change "content" ad.a_Change_content
  me_Change_XeqX : Meth K ad.c_Change "__eq__" ad.a_Change_XeqX
  co_Change_KIND : ∃ u, Con K ad.c_Change "KIND" (.str "none") u
  mg_Edit : mg "Edit" = some (.ref ad.c_Edit)
  cl_Edit : OCls K ad.c_Edit
  mk_Edit : Mk K ad.c_Edit ad.a_Edit_XinitX
  na_Edit_path : NoAttr K ad.c_Edit "path"
  na_Edit_hunks : NoAttr K ad.c_Edit "hunks"
  me_Edit_XinitX : Meth K ad.c_Edit "__init__" ad.a_Edit_XinitX
  me_Edit_content : Meth K ad.c_Edit "content" ad.a_Edit_content
  me_Edit_XeqX : Meth K ad.c_Edit "__eq__" ad.a_Change_XeqX
  co_Edit_KIND : ∃ u, Con K ad.c_Edit "KIND" (.str "edit") u
  mg_Create : mg "Create" = some (.ref ad.c_Create)
  cl_Create : OCls K ad.c_Create
  mk_Create : Mk K ad.c_Create ad.a_Create_XinitX
  na_Create_path : NoAttr K ad.c_Create "path"
  na_Create_lines : NoAttr K ad.c_Create "lines"
  me_Create_XinitX : Meth K ad.c_Create "__init__" ad.a_Create_XinitX
  me_Create_content : Meth K ad.c_Create "content" ad.a_Create_content
  me_Create_XeqX : Meth K ad.c_Create "__eq__" ad.a_Change_XeqX
  co_Create_KIND : ∃ u, Con K ad.c_Create "KIND" (.str "create") u
  mg_Remove : mg "Remove" = some (.ref ad.c_Remove)
  cl_Remove : OCls K ad.c_Remove
  mk_Remove : Mk K ad.c_Remove ad.a_Remove_XinitX
  na_Remove_path : NoAttr K ad.c_Remove "path"
  na_Remove_lines : NoAttr K ad.c_Remove "lines"
  me_Remove_XinitX : Meth K ad.c_Remove "__init__" ad.a_Remove_XinitX
  me_Remove_content : Meth K ad.c_Remove "content" ad.a_Remove_content
  me_Remove_XeqX : Meth K ad.c_Remove "__eq__" ad.a_Change_XeqX
  co_Remove_KIND : ∃ u, Con K ad.c_Remove "KIND" (.str "remove") u
  mg_Patch : mg "Patch" = some (.ref ad.c_Patch)
  cl_Patch : OCls K ad.c_Patch
  mk_Patch : Mk K ad.c_Patch ad.a_Patch_XinitX
  na_Patch_name : NoAttr K ad.c_Patch "name"
  na_Patch_by_path : NoAttr K ad.c_Patch "by_path"
  na_Patch_changes : NoAttr K ad.c_Patch "changes"
  me_Patch_XinitX : Meth K ad.c_Patch "__init__" ad.a_Patch_XinitX
  cm_Patch_of : ClX.CMet K ad.c_Patch (.type "type") "of" ad.p_Patch_of ad.a_Patch_of
  me_Patch_XeqX : Meth K ad.c_Patch "__eq__" ad.a_Patch_XeqX
  cr_Patch : ClX.CRead K ad.c_Patch (.type "type")
  mg_BadPath : mg "BadPath" = some (.ref ad.c_BadPath)
  mg_NoFile : mg "NoFile" = some (.ref ad.c_NoFile)
  mg_Refused : mg "Refused" = some (.ref ad.c_Refused)
  mg_SourceError : mg "SourceError" = some (.ref ad.c_SourceError)
  bi_SourceError : BaseI K ad.c_SourceError
  mg_BadName : mg "BadName" = some (.ref ad.c_BadName)
  ox_BadName : OxF K ad.c_BadName ad.a_BadName_XinitX
  na_BadName_name : PySem.W.findIn K (.ref ad.c_BadName) "name" = some none
  mg_BadHunk : mg "BadHunk" = some (.ref ad.c_BadHunk)
  ox_BadHunk : OxF K ad.c_BadHunk ad.a_BadHunk_XinitX
  na_BadHunk_index : PySem.W.findIn K (.ref ad.c_BadHunk) "index" = some none
  mg_BadPatch : mg "BadPatch" = some (.ref ad.c_BadPatch)
  ox_BadPatch : OxF K ad.c_BadPatch ad.a_BadPatch_XinitX
  na_BadPatch_path : PySem.W.findIn K (.ref ad.c_BadPatch) "path" = some none
  f_BadName_XinitX : Fun K "__init__" "BadName.__init__" s_BadName_XinitX ad.a_BadName_XinitX ad.d_BadName_XinitX
  fn_BadName_XinitX : PySem.W.isFn K (.ref ad.a_BadName_XinitX) = true
  fi_BadName_XinitX : PySem.W.fnIn K ad.a_BadName_XinitX = true
  k_BadName_XinitX : PySem.W.keepIn K (.ref ad.a_BadName_XinitX) = true
  b_BadName_XinitX : Binds K ad.d_BadName_XinitX ["self", "name"] []
  f_BadHunk_XinitX : Fun K "__init__" "BadHunk.__init__" s_BadHunk_XinitX ad.a_BadHunk_XinitX ad.d_BadHunk_XinitX
  fn_BadHunk_XinitX : PySem.W.isFn K (.ref ad.a_BadHunk_XinitX) = true
  fi_BadHunk_XinitX : PySem.W.fnIn K ad.a_BadHunk_XinitX = true
  k_BadHunk_XinitX : PySem.W.keepIn K (.ref ad.a_BadHunk_XinitX) = true
  b_BadHunk_XinitX : Binds K ad.d_BadHunk_XinitX ["self", "index"] []
  f_BadPatch_XinitX : Fun K "__init__" "BadPatch.__init__" s_BadPatch_XinitX ad.a_BadPatch_XinitX ad.d_BadPatch_XinitX
  fn_BadPatch_XinitX : PySem.W.isFn K (.ref ad.a_BadPatch_XinitX) = true
  fi_BadPatch_XinitX : PySem.W.fnIn K ad.a_BadPatch_XinitX = true
  k_BadPatch_XinitX : PySem.W.keepIn K (.ref ad.a_BadPatch_XinitX) = true
  b_BadPatch_XinitX : Binds K ad.d_BadPatch_XinitX ["self", "path"] []
  f_is_word : Fun K "is_word" "is_word" s_is_word ad.a_is_word ad.d_is_word
  m_is_word : mg "is_word" = some (.ref ad.a_is_word)
  k_is_word : PySem.W.keepIn K (.ref ad.a_is_word) = true
  b_is_word : Binds K ad.d_is_word ["text", "most"] []
  f_is_name : Fun K "is_name" "is_name" s_is_name ad.a_is_name ad.d_is_name
  m_is_name : mg "is_name" = some (.ref ad.a_is_name)
  k_is_name : PySem.W.keepIn K (.ref ad.a_is_name) = true
  b_is_name : Binds K ad.d_is_name ["text"] []
  f_is_path : Fun K "is_path" "is_path" s_is_path ad.a_is_path ad.d_is_path
  m_is_path : mg "is_path" = some (.ref ad.a_is_path)
  k_is_path : PySem.W.keepIn K (.ref ad.a_is_path) = true
  b_is_path : Binds K ad.d_is_path ["text"] []
  f_Tree_XinitX : Fun K "__init__" "Tree.__init__" s_Tree_XinitX ad.a_Tree_XinitX ad.d_Tree_XinitX
  fn_Tree_XinitX : PySem.W.isFn K (.ref ad.a_Tree_XinitX) = true
  fi_Tree_XinitX : PySem.W.fnIn K ad.a_Tree_XinitX = true
  k_Tree_XinitX : PySem.W.keepIn K (.ref ad.a_Tree_XinitX) = true
  b_Tree_XinitX : Binds K ad.d_Tree_XinitX ["self", "files"] []
  f_Tree_files : Fun K "files" "Tree.files" s_Tree_files ad.a_Tree_files ad.d_Tree_files
  fn_Tree_files : PySem.W.isFn K (.ref ad.a_Tree_files) = true
  fi_Tree_files : PySem.W.fnIn K ad.a_Tree_files = true
  k_Tree_files : PySem.W.keepIn K (.ref ad.a_Tree_files) = true
  b_Tree_files : Binds K ad.d_Tree_files ["self"] []
  f_Tree_file : Fun K "file" "Tree.file" s_Tree_file ad.a_Tree_file ad.d_Tree_file
  fn_Tree_file : PySem.W.isFn K (.ref ad.a_Tree_file) = true
  fi_Tree_file : PySem.W.fnIn K ad.a_Tree_file = true
  k_Tree_file : PySem.W.keepIn K (.ref ad.a_Tree_file) = true
  b_Tree_file : Binds K ad.d_Tree_file ["self", "path"] []
  f_Tree_found : Fun K "found" "Tree.found" s_Tree_found ad.a_Tree_found ad.d_Tree_found
  fn_Tree_found : PySem.W.isFn K (.ref ad.a_Tree_found) = true
  fi_Tree_found : PySem.W.fnIn K ad.a_Tree_found = true
  k_Tree_found : PySem.W.keepIn K (.ref ad.a_Tree_found) = true
  b_Tree_found : Binds K ad.d_Tree_found ["self", "path"] []
  f_Tree_put : Fun K "put" "Tree.put" s_Tree_put ad.a_Tree_put ad.d_Tree_put
  fn_Tree_put : PySem.W.isFn K (.ref ad.a_Tree_put) = true
  fi_Tree_put : PySem.W.fnIn K ad.a_Tree_put = true
  k_Tree_put : PySem.W.keepIn K (.ref ad.a_Tree_put) = true
  b_Tree_put : Binds K ad.d_Tree_put ["self", "path", "lines"] []
  f_Tree_drop : Fun K "drop" "Tree.drop" s_Tree_drop ad.a_Tree_drop ad.d_Tree_drop
  fn_Tree_drop : PySem.W.isFn K (.ref ad.a_Tree_drop) = true
  fi_Tree_drop : PySem.W.fnIn K ad.a_Tree_drop = true
  k_Tree_drop : PySem.W.keepIn K (.ref ad.a_Tree_drop) = true
  b_Tree_drop : Binds K ad.d_Tree_drop ["self", "path"] []
  f_Tree_XeqX : Fun K "__eq__" "Tree.__eq__" s_Tree_XeqX ad.a_Tree_XeqX ad.d_Tree_XeqX
  fn_Tree_XeqX : PySem.W.isFn K (.ref ad.a_Tree_XeqX) = true
  fi_Tree_XeqX : PySem.W.fnIn K ad.a_Tree_XeqX = true
  k_Tree_XeqX : PySem.W.keepIn K (.ref ad.a_Tree_XeqX) = true
  b_Tree_XeqX : Binds K ad.d_Tree_XeqX ["self", "other"] []
  f_Hunk_XinitX : Fun K "__init__" "Hunk.__init__" s_Hunk_XinitX ad.a_Hunk_XinitX ad.d_Hunk_XinitX
  fn_Hunk_XinitX : PySem.W.isFn K (.ref ad.a_Hunk_XinitX) = true
  fi_Hunk_XinitX : PySem.W.fnIn K ad.a_Hunk_XinitX = true
  k_Hunk_XinitX : PySem.W.keepIn K (.ref ad.a_Hunk_XinitX) = true
  b_Hunk_XinitX : Binds K ad.d_Hunk_XinitX ["self", "at", "before", "after"] []
  f_Hunk_growth : Fun K "growth" "Hunk.growth" s_Hunk_growth ad.a_Hunk_growth ad.d_Hunk_growth
  fn_Hunk_growth : PySem.W.isFn K (.ref ad.a_Hunk_growth) = true
  fi_Hunk_growth : PySem.W.fnIn K ad.a_Hunk_growth = true
  k_Hunk_growth : PySem.W.keepIn K (.ref ad.a_Hunk_growth) = true
  b_Hunk_growth : Binds K ad.d_Hunk_growth ["self"] []
  f_Hunk_end : Fun K "end" "Hunk.end" s_Hunk_end ad.a_Hunk_end ad.d_Hunk_end
  fn_Hunk_end : PySem.W.isFn K (.ref ad.a_Hunk_end) = true
  fi_Hunk_end : PySem.W.fnIn K ad.a_Hunk_end = true
  k_Hunk_end : PySem.W.keepIn K (.ref ad.a_Hunk_end) = true
  b_Hunk_end : Binds K ad.d_Hunk_end ["self"] []
  f_Hunk_XeqX : Fun K "__eq__" "Hunk.__eq__" s_Hunk_XeqX ad.a_Hunk_XeqX ad.d_Hunk_XeqX
  fn_Hunk_XeqX : PySem.W.isFn K (.ref ad.a_Hunk_XeqX) = true
  fi_Hunk_XeqX : PySem.W.fnIn K ad.a_Hunk_XeqX = true
  k_Hunk_XeqX : PySem.W.keepIn K (.ref ad.a_Hunk_XeqX) = true
  b_Hunk_XeqX : Binds K ad.d_Hunk_XeqX ["self", "other"] []
  f_Change_XinitX : Fun K "__init__" "Change.__init__" s_Change_XinitX ad.a_Change_XinitX ad.d_Change_XinitX
  fn_Change_XinitX : PySem.W.isFn K (.ref ad.a_Change_XinitX) = true
  fi_Change_XinitX : PySem.W.fnIn K ad.a_Change_XinitX = true
  k_Change_XinitX : PySem.W.keepIn K (.ref ad.a_Change_XinitX) = true
  b_Change_XinitX : Binds K ad.d_Change_XinitX ["self", "path"] []
  f_Change_content : Fun K "content" "Change.content" s_Change_content ad.a_Change_content ad.d_Change_content
  fn_Change_content : PySem.W.isFn K (.ref ad.a_Change_content) = true
  fi_Change_content : PySem.W.fnIn K ad.a_Change_content = true
  k_Change_content : PySem.W.keepIn K (.ref ad.a_Change_content) = true
  b_Change_content : Binds K ad.d_Change_content ["self"] []
  f_Change_XeqX : Fun K "__eq__" "Change.__eq__" s_Change_XeqX ad.a_Change_XeqX ad.d_Change_XeqX
  fn_Change_XeqX : PySem.W.isFn K (.ref ad.a_Change_XeqX) = true
  fi_Change_XeqX : PySem.W.fnIn K ad.a_Change_XeqX = true
  k_Change_XeqX : PySem.W.keepIn K (.ref ad.a_Change_XeqX) = true
  b_Change_XeqX : Binds K ad.d_Change_XeqX ["self", "other"] []
  f_Edit_XinitX : FunS K "__init__" "Edit.__init__" s_Edit_XinitX ad.a_Edit_XinitX ad.cd_Edit_XinitX ad.c_Edit ad.d_Edit_XinitX
  stx_Edit_XinitX : SupTx P K mg ad.a_Edit_XinitX ad.cd_Edit_XinitX ad.c_Edit P.main.file
  fn_Edit_XinitX : PySem.W.isFn K (.ref ad.a_Edit_XinitX) = true
  fi_Edit_XinitX : PySem.W.fnIn K ad.a_Edit_XinitX = true
  k_Edit_XinitX : PySem.W.keepIn K (.ref ad.a_Edit_XinitX) = true
  b_Edit_XinitX : Binds K ad.d_Edit_XinitX ["self", "path", "hunks"] []
  f_Edit_content : Fun K "content" "Edit.content" s_Edit_content ad.a_Edit_content ad.d_Edit_content
  fn_Edit_content : PySem.W.isFn K (.ref ad.a_Edit_content) = true
  fi_Edit_content : PySem.W.fnIn K ad.a_Edit_content = true
  k_Edit_content : PySem.W.keepIn K (.ref ad.a_Edit_content) = true
  b_Edit_content : Binds K ad.d_Edit_content ["self"] []
  f_Create_XinitX : FunS K "__init__" "Create.__init__" s_Create_XinitX ad.a_Create_XinitX ad.cd_Create_XinitX ad.c_Create ad.d_Create_XinitX
  stx_Create_XinitX : SupTx P K mg ad.a_Create_XinitX ad.cd_Create_XinitX ad.c_Create P.main.file
  fn_Create_XinitX : PySem.W.isFn K (.ref ad.a_Create_XinitX) = true
  fi_Create_XinitX : PySem.W.fnIn K ad.a_Create_XinitX = true
  k_Create_XinitX : PySem.W.keepIn K (.ref ad.a_Create_XinitX) = true
  b_Create_XinitX : Binds K ad.d_Create_XinitX ["self", "path", "lines"] []
  f_Create_content : Fun K "content" "Create.content" s_Create_content ad.a_Create_content ad.d_Create_content
  fn_Create_content : PySem.W.isFn K (.ref ad.a_Create_content) = true
  fi_Create_content : PySem.W.fnIn K ad.a_Create_content = true
  k_Create_content : PySem.W.keepIn K (.ref ad.a_Create_content) = true
  b_Create_content : Binds K ad.d_Create_content ["self"] []
  f_Remove_XinitX : FunS K "__init__" "Remove.__init__" s_Remove_XinitX ad.a_Remove_XinitX ad.cd_Remove_XinitX ad.c_Remove ad.d_Remove_XinitX
  stx_Remove_XinitX : SupTx P K mg ad.a_Remove_XinitX ad.cd_Remove_XinitX ad.c_Remove P.main.file
  fn_Remove_XinitX : PySem.W.isFn K (.ref ad.a_Remove_XinitX) = true
  fi_Remove_XinitX : PySem.W.fnIn K ad.a_Remove_XinitX = true
  k_Remove_XinitX : PySem.W.keepIn K (.ref ad.a_Remove_XinitX) = true
  b_Remove_XinitX : Binds K ad.d_Remove_XinitX ["self", "path", "lines"] []
  f_Remove_content : Fun K "content" "Remove.content" s_Remove_content ad.a_Remove_content ad.d_Remove_content
  fn_Remove_content : PySem.W.isFn K (.ref ad.a_Remove_content) = true
  fi_Remove_content : PySem.W.fnIn K ad.a_Remove_content = true
  k_Remove_content : PySem.W.keepIn K (.ref ad.a_Remove_content) = true
  b_Remove_content : Binds K ad.d_Remove_content ["self"] []
  f_Patch_XinitX : Fun K "__init__" "Patch.__init__" s_Patch_XinitX ad.a_Patch_XinitX ad.d_Patch_XinitX
  fn_Patch_XinitX : PySem.W.isFn K (.ref ad.a_Patch_XinitX) = true
  fi_Patch_XinitX : PySem.W.fnIn K ad.a_Patch_XinitX = true
  k_Patch_XinitX : PySem.W.keepIn K (.ref ad.a_Patch_XinitX) = true
  b_Patch_XinitX : BStar K ad.d_Patch_XinitX ["self", "name"] "changes"
  f_Patch_of : Fun K "of" "Patch.of" s_Patch_of ad.a_Patch_of ad.d_Patch_of
  fn_Patch_of : PySem.W.isFn K (.ref ad.a_Patch_of) = true
  fi_Patch_of : PySem.W.fnIn K ad.a_Patch_of = true
  k_Patch_of : PySem.W.keepIn K (.ref ad.a_Patch_of) = true
  b_Patch_of : Binds K ad.d_Patch_of ["cls", "name", "changes"] []
  f_Patch_XeqX : Fun K "__eq__" "Patch.__eq__" s_Patch_XeqX ad.a_Patch_XeqX ad.d_Patch_XeqX
  fn_Patch_XeqX : PySem.W.isFn K (.ref ad.a_Patch_XeqX) = true
  fi_Patch_XeqX : PySem.W.fnIn K ad.a_Patch_XeqX = true
  k_Patch_XeqX : PySem.W.keepIn K (.ref ad.a_Patch_XeqX) = true
  b_Patch_XeqX : Binds K ad.d_Patch_XeqX ["self", "other"] []
  f_first_wrong : Fun K "first_wrong" "first_wrong" s_first_wrong ad.a_first_wrong ad.d_first_wrong
  m_first_wrong : mg "first_wrong" = some (.ref ad.a_first_wrong)
  k_first_wrong : PySem.W.keepIn K (.ref ad.a_first_wrong) = true
  b_first_wrong : Binds K ad.d_first_wrong ["lines", "hunks"] []
  f_edited : Fun K "edited" "edited" s_edited ad.a_edited ad.d_edited
  m_edited : mg "edited" = some (.ref ad.a_edited)
  k_edited : PySem.W.keepIn K (.ref ad.a_edited) = true
  b_edited : Binds K ad.d_edited ["lines", "hunks"] []
  f_applied : Fun K "applied" "applied" s_applied ad.a_applied ad.d_applied
  m_applied : mg "applied" = some (.ref ad.a_applied)
  k_applied : PySem.W.keepIn K (.ref ad.a_applied) = true
  b_applied : Binds K ad.d_applied ["tree", "change"] []
  f_apply_patch : Fun K "apply_patch" "apply_patch" s_apply_patch ad.a_apply_patch ad.d_apply_patch
  m_apply_patch : mg "apply_patch" = some (.ref ad.a_apply_patch)
  k_apply_patch : PySem.W.keepIn K (.ref ad.a_apply_patch) = true
  b_apply_patch : Binds K ad.d_apply_patch ["tree", "patch"] []
  f_reversed_change : Fun K "reversed_change" "reversed_change" s_reversed_change ad.a_reversed_change ad.d_reversed_change
  m_reversed_change : mg "reversed_change" = some (.ref ad.a_reversed_change)
  k_reversed_change : PySem.W.keepIn K (.ref ad.a_reversed_change) = true
  b_reversed_change : Binds K ad.d_reversed_change ["change"] []
  f_reversed_patch : Fun K "reversed_patch" "reversed_patch" s_reversed_patch ad.a_reversed_patch ad.d_reversed_patch
  m_reversed_patch : mg "reversed_patch" = some (.ref ad.a_reversed_patch)
  k_reversed_patch : PySem.W.keepIn K (.ref ad.a_reversed_patch) = true
  b_reversed_patch : Binds K ad.d_reversed_patch ["patch"] []
  f_law_source : Fun K "_law_source" "_law_source" s_law_source ad.a_law_source ad.d_law_source
  m_law_source : mg "_law_source" = some (.ref ad.a_law_source)
  k_law_source : PySem.W.keepIn K (.ref ad.a_law_source) = true
  b_law_source : Binds K ad.d_law_source ["_law_script", "_law_index"] []
  f_law_draw : Fun K "_law_draw" "_law_draw" s_law_draw ad.a_law_draw ad.d_law_draw
  m_law_draw : mg "_law_draw" = some (.ref ad.a_law_draw)
  k_law_draw : PySem.W.keepIn K (.ref ad.a_law_draw) = true
  b_law_draw : Binds K ad.d_law_draw ["_law_source_here", "_law_bound"] []
  f_law_some_lines : Fun K "_law_some_lines" "_law_some_lines" s_law_some_lines ad.a_law_some_lines ad.d_law_some_lines
  m_law_some_lines : mg "_law_some_lines" = some (.ref ad.a_law_some_lines)
  k_law_some_lines : PySem.W.keepIn K (.ref ad.a_law_some_lines) = true
  b_law_some_lines : Binds K ad.d_law_some_lines ["_law_source_here", "_law_most", "_law_words"] []
  f_law_drawn_tree : Fun K "_law_drawn_tree" "_law_drawn_tree" s_law_drawn_tree ad.a_law_drawn_tree ad.d_law_drawn_tree
  m_law_drawn_tree : mg "_law_drawn_tree" = some (.ref ad.a_law_drawn_tree)
  k_law_drawn_tree : PySem.W.keepIn K (.ref ad.a_law_drawn_tree) = true
  b_law_drawn_tree : Binds K ad.d_law_drawn_tree ["_law_source_here", "_law_many", "_law_most", "_law_words"] []
  f_law_built : Fun K "_law_built" "_law_built" s_law_built ad.a_law_built ad.d_law_built
  m_law_built : mg "_law_built" = some (.ref ad.a_law_built)
  k_law_built : PySem.W.keepIn K (.ref ad.a_law_built) = true
  b_law_built : Binds K ad.d_law_built ["_law_files"] []
  f_law_exact_hunks : Fun K "_law_exact_hunks" "_law_exact_hunks" s_law_exact_hunks ad.a_law_exact_hunks ad.d_law_exact_hunks
  m_law_exact_hunks : mg "_law_exact_hunks" = some (.ref ad.a_law_exact_hunks)
  k_law_exact_hunks : PySem.W.keepIn K (.ref ad.a_law_exact_hunks) = true
  b_law_exact_hunks : Binds K ad.d_law_exact_hunks ["_law_source_here", "_law_lines", "_law_many", "_law_words"] []
  f_law_exact_patch : Fun K "_law_exact_patch" "_law_exact_patch" s_law_exact_patch ad.a_law_exact_patch ad.d_law_exact_patch
  m_law_exact_patch : mg "_law_exact_patch" = some (.ref ad.a_law_exact_patch)
  k_law_exact_patch : PySem.W.keepIn K (.ref ad.a_law_exact_patch) = true
  b_law_exact_patch : Binds K ad.d_law_exact_patch ["_law_source_here", "_law_files", "_law_name", "_law_words"] []
  f_law : Fun K "law" "law" s_law ad.a_law ad.d_law
  m_law : mg "law" = some (.ref ad.a_law)
  k_law : PySem.W.keepIn K (.ref ad.a_law) = true
  b_law : Binds K ad.d_law ["_law_script"] []
  g_LETTERS : ∃ u, mg "LETTERS" = some u ∧ RelV (.str "abcdefghijklmnopqrstuvwxyz") u
  g_MOST_LETTERS : ∃ u, mg "MOST_LETTERS" = some u ∧ RelV (.int 12) u
  g_MOST_PARTS : ∃ u, mg "MOST_PARTS" = some u ∧ RelV (.int 3) u
  g_MOST_PART : ∃ u, mg "MOST_PART" = some u ∧ RelV (.int 8) u
  ne_Hunk : PySem.W.findIn K (.ref ad.c_Hunk) "__ne__" = some (some (.builtin "object.__ne__"))
  ne_Change : PySem.W.findIn K (.ref ad.c_Change) "__ne__" = some (some (.builtin "object.__ne__"))
  ne_Edit : PySem.W.findIn K (.ref ad.c_Edit) "__ne__" = some (some (.builtin "object.__ne__"))
  ne_Create : PySem.W.findIn K (.ref ad.c_Create) "__ne__" = some (some (.builtin "object.__ne__"))
  ne_Remove : PySem.W.findIn K (.ref ad.c_Remove) "__ne__" = some (some (.builtin "object.__ne__"))
  ne_Patch : PySem.W.findIn K (.ref ad.c_Patch) "__ne__" = some (some (.builtin "object.__ne__"))
  ne_Tree : PySem.W.findIn K (.ref ad.c_Tree) "__ne__" = some (some (.builtin "object.__ne__"))
  su_Hunk : PySem.W.subIn K (.ref ad.c_Hunk) (.ref ad.c_Hunk) = some true
  st_Hunk : PySem.W.subIn K (.type "tuple") (.ref ad.c_Hunk) = some false
  nf_Hunk_Hunk : PySem.W.notFirst K ad.c_Hunk (.ref ad.c_Hunk) = true
  nt_Hunk : PySem.W.notFirst K ad.c_Hunk (.type "tuple") = true
  su_Patch : PySem.W.subIn K (.ref ad.c_Patch) (.ref ad.c_Patch) = some true
  st_Patch : PySem.W.subIn K (.type "tuple") (.ref ad.c_Patch) = some false
  nf_Patch_Patch : PySem.W.notFirst K ad.c_Patch (.ref ad.c_Patch) = true
  nt_Patch : PySem.W.notFirst K ad.c_Patch (.type "tuple") = true
  su_Tree : PySem.W.subIn K (.ref ad.c_Tree) (.ref ad.c_Tree) = some true
  st_Tree : PySem.W.subIn K (.type "tuple") (.ref ad.c_Tree) = some false
  nf_Tree_Tree : PySem.W.notFirst K ad.c_Tree (.ref ad.c_Tree) = true
  nt_Tree : PySem.W.notFirst K ad.c_Tree (.type "tuple") = true
  ss_Patch : PySem.W.subIn K (.type "str") (.ref ad.c_Patch) = some false
  ns_Patch : PySem.W.notFirst K ad.c_Patch (.type "str") = true
  su_Change : PySem.W.subIn K (.ref ad.c_Change) (.ref ad.c_Change) = some true
  se_Change : PySem.W.subIn K (.ref ad.c_Change) (.ref ad.c_Edit) = some false
  sc_Change : PySem.W.subIn K (.ref ad.c_Change) (.ref ad.c_Create) = some false
  sr_Change : PySem.W.subIn K (.ref ad.c_Change) (.ref ad.c_Remove) = some false
  nf_Change_Change : PySem.W.notFirst K ad.c_Change (.ref ad.c_Change) = true
  mr2_Edit : PySem.W.mroIn K ad.c_Edit (.ref ad.c_Change) = some true
  mr2_Create : PySem.W.mroIn K ad.c_Create (.ref ad.c_Change) = some true
  mr2_Remove : PySem.W.mroIn K ad.c_Remove (.ref ad.c_Change) = some true
  su_Edit : PySem.W.subIn K (.ref ad.c_Edit) (.ref ad.c_Change) = some true
  se_Edit : PySem.W.subIn K (.ref ad.c_Edit) (.ref ad.c_Edit) = some true
  sc_Edit : PySem.W.subIn K (.ref ad.c_Edit) (.ref ad.c_Create) = some false
  sr_Edit : PySem.W.subIn K (.ref ad.c_Edit) (.ref ad.c_Remove) = some false
  si_Edit : PySem.W.ks_superIn K ad.c_Edit ad.c_Edit "__init__" = some (some (.ref ad.a_Change_XinitX))
  mr_Edit : PySem.W.mroIn K ad.c_Edit (.ref ad.c_Edit) = some true
  nq_Edit : ad.c_Edit ≠ ad.c_Change
  nf_Edit_Change : PySem.W.notFirst K ad.c_Edit (.ref ad.c_Change) = true
  nf_Edit_Edit : PySem.W.notFirst K ad.c_Edit (.ref ad.c_Edit) = true
  nf_Edit_Create : PySem.W.notFirst K ad.c_Edit (.ref ad.c_Create) = true
  nf_Edit_Remove : PySem.W.notFirst K ad.c_Edit (.ref ad.c_Remove) = true
  su_Create : PySem.W.subIn K (.ref ad.c_Create) (.ref ad.c_Change) = some true
  se_Create : PySem.W.subIn K (.ref ad.c_Create) (.ref ad.c_Edit) = some false
  sc_Create : PySem.W.subIn K (.ref ad.c_Create) (.ref ad.c_Create) = some true
  sr_Create : PySem.W.subIn K (.ref ad.c_Create) (.ref ad.c_Remove) = some false
  si_Create : PySem.W.ks_superIn K ad.c_Create ad.c_Create "__init__" = some (some (.ref ad.a_Change_XinitX))
  mr_Create : PySem.W.mroIn K ad.c_Create (.ref ad.c_Create) = some true
  nq_Create : ad.c_Create ≠ ad.c_Change
  nqe_Create : ad.c_Create ≠ ad.c_Edit
  nf_Create_Change : PySem.W.notFirst K ad.c_Create (.ref ad.c_Change) = true
  nf_Create_Edit : PySem.W.notFirst K ad.c_Create (.ref ad.c_Edit) = true
  nf_Create_Create : PySem.W.notFirst K ad.c_Create (.ref ad.c_Create) = true
  nf_Create_Remove : PySem.W.notFirst K ad.c_Create (.ref ad.c_Remove) = true
  su_Remove : PySem.W.subIn K (.ref ad.c_Remove) (.ref ad.c_Change) = some true
  se_Remove : PySem.W.subIn K (.ref ad.c_Remove) (.ref ad.c_Edit) = some false
  sc_Remove : PySem.W.subIn K (.ref ad.c_Remove) (.ref ad.c_Create) = some false
  sr_Remove : PySem.W.subIn K (.ref ad.c_Remove) (.ref ad.c_Remove) = some true
  si_Remove : PySem.W.ks_superIn K ad.c_Remove ad.c_Remove "__init__" = some (some (.ref ad.a_Change_XinitX))
  mr_Remove : PySem.W.mroIn K ad.c_Remove (.ref ad.c_Remove) = some true
  nq_Remove : ad.c_Remove ≠ ad.c_Change
  nqe_Remove : ad.c_Remove ≠ ad.c_Edit
  nf_Remove_Change : PySem.W.notFirst K ad.c_Remove (.ref ad.c_Change) = true
  nf_Remove_Edit : PySem.W.notFirst K ad.c_Remove (.ref ad.c_Edit) = true
  nf_Remove_Create : PySem.W.notFirst K ad.c_Remove (.ref ad.c_Create) = true
  nf_Remove_Remove : PySem.W.notFirst K ad.c_Remove (.ref ad.c_Remove) = true
  nqCR : ad.c_Create ≠ ad.c_Remove
end Toy

namespace Toy
open PySem L2
local macro_rules | `(tactic| tm_at "w") => `(tactic| (conv => whnf))
local macro_rules | `(tactic| tm_at "fr") => `(tactic| first | assumption | exact upd_none (by assumption) | exact upd_none (upd_none (by assumption)) | exact upd_none (upd_none (upd_none (by assumption))) | exact upd_none (upd_none (upd_none (upd_none (by assumption)))))
local macro_rules | `(tactic| tm_at "ne") => `(tactic| first | assumption | (apply Ne.symm; assumption) | exact upd_none_ne (by assumption) | exact (upd_none_ne (by assumption)).symm | exact upd_none_ne (upd_none (by assumption)) | exact (upd_none_ne (upd_none (by assumption))).symm | exact upd_none_ne (upd_none (upd_none (by assumption))) | exact (upd_none_ne (upd_none (upd_none (by assumption)))).symm)
local macro_rules | `(tactic| tm_at "heap") => `(tactic| first | assumption | exact upd_same | (refine upd_new ?_ (by tm_at "fr"); tm_at "heap") | (refine upd_oth (by tm_at "ne") ?_; tm_at "heap") | (refine SameB.get (by assumption) (by tm_at "ne") ?_; tm_at "heap") | (refine Same.get (by assumption) ?_; tm_at "heap"))
local macro_rules | `(tactic| tm_at "sq") => `(tactic| first | assumption | exact SqL.of (by tm_at "heap") | exact SqT.of (by tm_at "heap"))
local macro_rules | `(tactic| tm_at "ix") => `(tactic| (conv => whnf); first | refine ⟨_, _, .inl (by tm_at "sq"), rfl, ?_⟩ | refine ⟨_, _, .inr (by tm_at "sq"), rfl, ?_⟩)
local macro_rules | `(tactic| tm_at "sb") => `(tactic| first | assumption | exact SameB.refl | (refine SameB.ws ?_; tm_at "sb") | (refine SameB.wr ?_ (by tm_at "fr"); tm_at "sb") | (refine SameB.trans ?_ (by assumption); tm_at "sb"))
section
variable {P : Program} {w : World} {K : PySem.W.Frag} {mg : Str → Option Value} {base : Heap} {ad : Ad}
theorem ok_law_draw (T : Txt P K mg ad) : FnOk P w K mg base CX0 1 ad.a_law_draw ad.d_law_draw ["_law_source_here", "_law_bound"] spDraw := by
  refine T.f_law_draw.ok sc_law_draw (fun vs H Q E h => ?_) (fun cdv A outer s H vs Q E hr h => ?_)
  · obtain ⟨s, n, k, xs, rfl, _⟩ := h; rfl
  · obtain ⟨s, n, k, xs, rfl, hs, ⟨a, b, c, rfl, ha, hb, hb2, hc, hc2⟩, hk, hn, hn2, q⟩ := h
    refine ⟨_, pss_cons (cs_if (ct_cmp oc_gt (pe_ix (ic_seq (K := K)) (cv 0) pe_int (fun _ _ => rfl)) pe_int (nomark _))
        (pss_cons (ps_set (i := 2) sc_law_draw.nd rfl (by first | exact Or.inl rfl | exact Or.inr rfl) (pe_op oc_mod (pe_ix (ic_seq (K := K)) (cv 0) pe_int (fun _ _ => rfl)) (cv 1)))
        (pss_cons (ps_asg (pe_op oc_div (pe_ix (ic_seq (K := K)) (cv 0) pe_int (fun _ _ => rfl)) (cv 1)) (pg_sub (cv 0) pe_int set_c))
        (pss_one (ps_ret (cv 2)))))
        pss_nil)
      (pss_cons (ps_asg (pe_op (oc_add (K := K)) (pe_ix (ic_seq (K := K)) (cv 0) pe_int (fun _ _ => rfl)) pe_int) (pg_sub (cv 0) pe_int set_c))
      (pss_cons (ps_set (i := 3) sc_law_draw.nd rfl (by first | exact Or.inl rfl | exact Or.inr rfl) (pe_op oc_mod (pe_op oc_pow (pe_op (oc_add (K := K)) (pe_ix (ic_seq (K := K)) (cv 0) pe_int (fun _ _ => rfl)) (pe_op oc_mul pe_int (pe_ix (ic_seq (K := K)) (cv 0) pe_int (fun _ _ => rfl)))) pe_int) (pe_op (oc_add (K := K)) (pe_op oc_pow pe_int pe_int) pe_int)))
      (pss_cons (ps_set (i := 3) sc_law_draw.nd rfl (by first | exact Or.inl rfl | exact Or.inr rfl) (pe_op oc_mod (pe_op oc_pow (pe_op (oc_add (K := K)) (cv 3) (pe_op oc_mul pe_int (pe_ix (ic_seq (K := K)) (cv 0) pe_int (fun _ _ => rfl)))) pe_int) (pe_op (oc_add (K := K)) (pe_op oc_pow pe_int pe_int) pe_int)))
      (pss_one (ps_ret (pe_op oc_mod (pe_op oc_div (cv 3) pe_int) (cv 1))))))), ?_⟩
    tm_at "ix"
    refine ⟨fun h => ?_, fun h => ?_⟩
    · have h := of_decide_eq_true h
      tm_at "ix"
      refine ⟨hn, ?_⟩
      tm_at "ix"
      refine ⟨wide_div hn (b := 200) (by omega) (by decide) (by decide), ?_⟩
      tm_at "w"
      refine ⟨_, 0, hs, rfl, ?_⟩
      exact q _ _ (Int.emod_nonneg _ (by omega)) (Int.emod_lt_of_pos _ hn) ⟨a / n, b, c, rfl, Int.ediv_nonneg ha (by omega), hb, hb2, hc, by omega⟩
    · tm_at "ix"
      tm_at "w"
      refine ⟨_, 2, hs, rfl, ?_⟩
      tm_at "ix"
      tm_at "ix"
      refine ⟨.inl (by decide), ?_⟩
      have e1 : (b + 15485863 * (c + 1)).natAbs < 2 ^ 201 := by omega
      refine ⟨pow_bits e1 (by decide) (by decide) (by decide), ?_⟩
      refine ⟨pow_bits (a := 4) (by decide) (by decide) (by decide) (by decide), ?_⟩
      refine ⟨(by show (0 : Int) < 10 ^ 35 + 69; decide), ?_⟩
      have e2 : ∀ m : Int, 0 ≤ m → m < 2 ^ 130 → (m + 32452843 * (c + 1)).natAbs < 2 ^ 201 := by intro m h1 h2; omega
      tm_at "ix"
      refine ⟨.inl (by decide), ?_⟩
      refine ⟨pow_bits (e2 _ (Int.emod_nonneg _ (by decide)) (Int.lt_trans (Int.emod_lt_of_pos _ (by decide)) (by decide))) (by decide) (by decide) (by decide), ?_⟩
      refine ⟨pow_bits (a := 4) (by decide) (by decide) (by decide) (by decide), ?_⟩
      refine ⟨(by show (0 : Int) < 10 ^ 32 + 49; decide), ?_⟩
      refine ⟨wide_div (by decide) (b := 20) (by decide) (by decide) (by decide), ?_⟩
      refine ⟨hn, ?_⟩
      exact q _ _ (Int.emod_nonneg _ (by omega)) (Int.emod_lt_of_pos _ hn) ⟨a, b, c + 1, rfl, ha, hb, hb2, by omega, by omega⟩
theorem ok_law_source (T : Txt P K mg ad) : FnOk P w K mg base CX0 1 ad.a_law_source ad.d_law_source ["_law_script", "_law_index"] (spSource K) := by
  refine T.f_law_source.ok sc_law_source (fun vs H Q E h => ?_) (fun cdv A outer s H vs Q E hr h => ?_)
  · obtain ⟨a, i, ns, rfl, _⟩ := h; rfl
  · obtain ⟨a, i, ns, rfl, hs, hl, hi, hi2, q⟩ := h
    refine ⟨_, pss_cons (ps_set (i := 2) sc_law_source.nd rfl (by first | exact Or.inl rfl | exact Or.inr rfl) pe_int)
      (pss_cons (PS.cut (cs_if (ct_cmp oc_lt (cv 1) (pe_callB (cc_len (K := K)) (by rfl) T.n_len (by decide +kernel) (pa_cons (cv 0) pa_nil)) (nomark _))
        (pss_one (ps_set (i := 2) sc_law_source.nd rfl (by first | exact Or.inl rfl | exact Or.inr rfl) (pe_ix (ic_seq (K := K)) (cv 0) (cv 1) (fun _ _ => rfl))))
        pss_nil))
      (pss_one (ps_ret (pe_lst (pa_cons (pe_callB (cc_max rfl) (by rfl) T.n_max (by decide +kernel) (pa_cons pe_int (pa_cons (pe_op oc_sub (cv 2) (pe_op oc_pow pe_int pe_int)) pa_nil))) (pa_cons (pe_op (oc_add (K := K)) (pe_op oc_mod (cv 2) (pe_op (oc_add (K := K)) (pe_op oc_pow pe_int pe_int) pe_int)) (pe_op oc_mul pe_int (cv 1))) (pa_cons pe_int pa_nil))))))), ?_⟩
    refine ⟨fun σ' H' => ∃ c : Int, σ' = [some (.ref a), some (.int i), some (.int c)] ∧ H' = H, ?_, ?_⟩
    · tm_at "w"
      refine ⟨ns.map V.int, .inl hs, fun h => ?_, fun h => ⟨_, rfl, rfl⟩⟩
      have h := of_decide_eq_true h
      rw [List.length_map] at h
      obtain ⟨j, rfl⟩ := Int.eq_ofNat_of_zero_le hi
      have hj : j < ns.length := by omega
      exact ⟨_, _, .inl hs, atI_nat (by rw [List.getElem?_map, List.getElem?_eq_getElem hj]; rfl), _, rfl, rfl⟩
    · rintro σ' H' ⟨c, rfl, rfl⟩
      refine ⟨pow_bits (a := 4) (by decide) (by decide) (by decide) (by decide), ?_⟩
      refine ⟨pow_bits (a := 4) (by decide) (by decide) (by decide) (by decide), ?_⟩
      refine ⟨(by show (0 : Int) < 10 ^ 37 + 43; decide), ?_⟩
      refine ⟨.inl (by decide), by show 3 ≤ sizeLine; decide, fun p hp => q _ _ hp ?_⟩
      have h1 : 0 ≤ c % (10 ^ 37 + 43) := Int.emod_nonneg _ (by decide)
      have h2 : c % (10 ^ 37 + 43) < 10 ^ 37 + 43 := Int.emod_lt_of_pos _ (by decide)
      exact ⟨_, _, _, rfl, Int.le_max_left _ _, (by show 0 ≤ c % (10 ^ 37 + 43) + 1299709 * i; omega), (by show c % (10 ^ 37 + 43) + 1299709 * i < 2 ^ 200; omega), by decide, by decide⟩
end
/-! names and paths -/
def lettersC : List Nat := (Str.ofString "abcdefghijklmnopqrstuvwxyz").cps.toList
def wordB (t : Str) (m : Int) : Bool := (decide (1 ≤ (t.length : Int)) && decide ((t.length : Int) ≤ m)) && t.cps.toList.all fun c => decide (c ∈ lettersC)
def pathB (t : Str) : Bool := decide (((Txt.split t "/").length : Int) ≤ 3) && (Txt.split t "/").all fun p => wordB p 8
def spWord : Sp := fun vs H Q _ => ∃ (t : Str) (m : Int), vs = [.str t, .int m] ∧ t.length ≤ 10 ^ 6 ∧ ∀ H', Same H H' → Q (.bl (wordB t m)) H'
def spPath : Sp := fun vs H Q _ => ∃ (t : Str), vs = [.str t] ∧ t.length ≤ 10 ^ 5 ∧ (Txt.split t "/").length ≤ 10 ^ 6 ∧ (∀ p ∈ Txt.split t "/", p.length ≤ 10 ^ 6) ∧ ∀ H', Same H H' → Q (.bl (pathB t)) H'
section
variable {P : Program} {w : World} {K : PySem.W.Frag} {mg : Str → Option Value} {base : Heap} {ad : Ad}
theorem ok_is_word (T : Txt P K mg ad) : FnOk P w K mg base CX0 1 ad.a_is_word ad.d_is_word ["text", "most"] spWord := by
  refine T.f_is_word.ok sc_is_word (fun vs H Q E h => ?_) (fun cdv A outer s H vs Q E hr h => ?_)
  · obtain ⟨t, m, rfl, _⟩ := h; rfl
  · obtain ⟨t, m, rfl, hl, q⟩ := h
    refine ⟨_, pss_one (ps_ret (ce_and (pe_chain oc_le oc_le pe_int (pe_callB (cc_len (K := K)) (by rfl) T.n_len (by decide +kernel) (pa_cons (cv 0) pa_nil)) (cv 1)) (pe_one (pe_callB (cr_all rfl) (by rfl) T.n_all (by decide +kernel) (pa_cons (pe_lc (own := [("letter", 2)]) (g := gName 2) (by rfl) sc_is_word.nd  (pi_str (cv 0)) (blkOk_by (own := [("letter", 2)]) (N := N_is_word) (sc := defScope s_is_word) (by decide +kernel)) (fun _ _ _ _ _ => pg_name (i := 2) sc_is_word.nd rfl (by first | exact Or.inl rfl | exact Or.inr rfl)) (fun _ _ _ _ _ => pts_nil) (fun _ _ _ _ _ => pe_cmpR (oc_in (K := K)) (cv 2) (pe_globE rfl T.g_LETTERS) rfl)) pa_nil))))), ?_⟩
    tm_at "w"
    refine ⟨by rw [sizeLine_eq]; omega, ?_⟩
    tm_at "w"
    refine ⟨_, rfl, ?_⟩
    by_cases h1 : (1 : Int) ≤ t.length
    · rw [if_pos (decide_eq_true h1)]
      tm_at "w"
      refine ⟨fun h2 => ?_, fun h2 => ?_⟩
      · have h2 : decide ((t.length : Int) ≤ m) = true := h2
        refine ⟨_, rfl, fun D hD => ?_⟩
        refine lc_fun walk_str (fun i => .bl (decide (t.cps.toList.getD i 0 ∈ lettersC))) hD (by show t.length ≤ _; omega) (fun _ _ => trivial) ?_ ?_
        · rintro i x H2 H3 Nx Nz hi s1 ⟨rfl, c, hc, rfl⟩ k
          refine ⟨rfl, ?_⟩
          tm_at "w"
          refine ⟨c, rfl, ?_⟩
          have e : t.cps.toList.getD i 0 = c := by
            rw [List.getD_eq_getElem?_getD, Array.getElem?_toList, hc]; rfl
          have := k H3 (Same.refl _)
          rw [e] at this
          rw [bne_f]; exact this
        · intro H2 s1 e
          refine ⟨D, (List.range t.cps.size).map fun i => decide (t.cps.toList.getD i 0 ∈ lettersC), rfl, SqL.of (by rw [e, List.map_map]; rfl), ?_⟩
          have hq := q H2 s1
          have hw : wordB t m = ((List.range t.cps.size).map fun i => decide (t.cps.toList.getD i 0 ∈ lettersC)).all id := by
            unfold wordB
            rw [decide_eq_true h1, h2, Bool.true_and, Bool.true_and, List.all_map]
            have : t.cps.toList = (List.range t.cps.size).map fun i => t.cps.toList.getD i 0 := by
              apply list_of (by simp)
              intro i y hy
              rw [List.getD_eq_getElem?_getD, hy]; rfl
            conv => lhs; rw [this]
            rw [List.all_map]; rfl
          rw [hw] at hq
          exact hq
      · have h2 : decide ((t.length : Int) ≤ m) = false := h2
        have hq := q H (Same.refl _)
        unfold wordB at hq
        rw [h2, Bool.and_false, Bool.false_and] at hq
        exact hq
    · rw [if_neg (by simpa using h1)]
      have hq := q H (Same.refl _)
      unfold wordB at hq
      rw [decide_eq_false h1, Bool.false_and, Bool.false_and] at hq
      exact .f hq
theorem ok_is_path (T : Txt P K mg ad) : FnOk P w K mg base CX0 2 ad.a_is_path ad.d_is_path ["text"] spPath := by
  refine T.f_is_path.ok sc_is_path (fun vs H Q E h => ?_) (fun cdv A outer s H vs Q E hr h => ?_)
  · obtain ⟨t, rfl, _⟩ := h; rfl
  · obtain ⟨t, rfl, hl, hl2, hl3, q⟩ := h
    refine ⟨_, pss_cons (ps_set (i := 1) sc_is_path.nd rfl (by first | exact Or.inl rfl | exact Or.inr rfl) (pe_split (cv 0) pe_str))
      (pss_one (ps_ret (ce_and (pe_cmpR oc_le (pe_callB (cc_len (K := K)) (by rfl) T.n_len (by decide +kernel) (pa_cons (cv 1) pa_nil)) (pe_globE rfl T.g_MOST_PARTS) (nomark _)) (pe_one (pe_callB (cr_all rfl) (by rfl) T.n_all (by decide +kernel) (pa_cons (pe_lc (own := [("part", 2)]) (g := gName 2) (by rfl) sc_is_path.nd  (pic_seq (K := K) (cv 1)) (blkOk_by (own := [("part", 2)]) (N := N_is_path) (sc := defScope s_is_path) (by decide +kernel)) (fun _ _ _ _ _ => pg_name (i := 2) sc_is_path.nd rfl (by first | exact Or.inl rfl | exact Or.inr rfl)) (fun _ _ _ _ _ => pts_nil) (fun _ _ _ _ _ => pe_call (ok_is_word T) (hr.mono (by decide)) rfl T.m_is_word T.k_is_word T.b_is_word .nil pass0 (pa_cons (cv 2) (pa_cons (pe_globE rfl T.g_MOST_PART) pa_nil)))) pa_nil)))))), ?_⟩
    tm_at "w"
    refine ⟨⟨_, rfl⟩, ?_⟩
    refine ⟨t, "/", rfl, rfl, by decide +kernel, by rw [sizeLine_eq]; omega, fun p hp => ?_⟩
    tm_at "w"
    refine ⟨_, .inl (SqL.of upd_same), ?_⟩
    tm_at "w"
    rw [List.length_map]
    refine ⟨fun h1 => ?_, fun h1 => ?_⟩
    · have h1 : decide (((Txt.split t "/").length : Int) ≤ 3) = true := h1
      refine .inl ⟨p, rfl, ⟨_, SqL.of upd_same⟩, fun D hD => ?_⟩
      refine lc_fun (walk_list (xs := (Txt.split t "/").map V.str)) (fun i => .bl (wordB ((Txt.split t "/").getD i "") 8)) hD (by rw [List.length_map]; omega) (fun H2 s2 => SqL.of (s2 _ _ upd_same)) ?_ ?_
      · rintro i x H2 H3 Nx Nz hi s1 ⟨rfl, hx⟩ k
        rw [List.getElem?_map] at hx
        obtain ⟨y, hy, rfl⟩ := Option.map_eq_some_iff.mp hx
        refine ⟨rfl, ?_⟩
        refine ⟨y, 8, rfl, hl3 y (List.mem_of_getElem? hy), fun H4 s4 => ?_⟩
        have := k H4 s4
        rw [List.getD_eq_getElem?_getD, hy] at this
        exact this
      · intro H2 s1 e
        rw [List.length_map] at e
        refine ⟨D, (List.range (Txt.split t "/").length).map fun i => wordB ((Txt.split t "/").getD i "") 8, rfl, SqL.of (by rw [e, List.map_map]; rfl), ?_⟩
        have hq := q H2 ((Same.new hp).trans s1)
        have hw : pathB t = ((List.range (Txt.split t "/").length).map fun i => wordB ((Txt.split t "/").getD i "") 8).all id := by
          unfold pathB
          rw [h1, Bool.true_and, List.all_map]
          have : Txt.split t "/" = (List.range (Txt.split t "/").length).map fun i => (Txt.split t "/").getD i "" := by
            apply list_of rfl
            intro i y hy
            rw [List.getD_eq_getElem?_getD, hy]; rfl
          conv => lhs; rw [this]
          rw [List.all_map]; rfl
        rw [hw] at hq
        exact hq
    · have h1 : decide (((Txt.split t "/").length : Int) ≤ 3) = false := h1
      have hq := q _ (Same.new (o := .lst ((Txt.split t "/").map V.str)) hp)
      unfold pathB at hq
      rw [h1, Bool.false_and] at hq
      exact hq
end
/-- the lines that words give -/
def wds : List Str := ["a", "b", "", "c c", "dd"]
def ends : List Str := ["", "", "", "", " ", "A"]
/-- a line: a text of at most 40 signs; by words, one of a few -/
def Wl (words : Int) (l : Str) : Prop := l.length ≤ 40 ∧ (0 < words → ∃ z ∈ wds, ∃ e ∈ ends, l = z ++ e)
/-- some lines: texts of at most 40 signs -/
def spLines : Sp := fun vs H Q _ => ∃ (s : Addr) (most words : Int) (k : Nat) (xs : List V), vs = [.ref s, .int most, .int words] ∧ H s = some (.lst xs) ∧ SrcL k xs ∧ k < 2 ^ 50 ∧ 0 ≤ most ∧ most ≤ 10 ^ 6 ∧ words ≤ 5 ∧
  ∀ (ls : List Str) (p : Addr) (ys : List V) (H' : Hp), (ls.length : Int) ≤ most → (∀ l ∈ ls, Wl words l) → H p = none → H' p = some (.lst (ls.map V.str)) → H' s = some (.lst ys) → SrcL (k + 1 + 3 * most.toNat) ys → SameB s H H' → Q (.ref p) H'
section
variable {P : Program} {w : World} {K : PySem.W.Frag} {mg : Str → Option Value} {base : Heap} {ad : Ad}
theorem ok_law_some_lines (T : Txt P K mg ad) : FnOk P w K mg base CX0 2 ad.a_law_some_lines ad.d_law_some_lines ["_law_source_here", "_law_most", "_law_words"] spLines := by
  refine T.f_law_some_lines.ok sc_law_some_lines (fun vs H Q E h => ?_) (fun cdv A outer s H vs Q E hr h => ?_)
  · obtain ⟨s, n, m, k, xs, rfl, _⟩ := h; rfl
  · obtain ⟨s, most, words, k, xs, rfl, hs, hx, hk, hm0, hm1, hw, q⟩ := h
    refine ⟨_, pss_cons (ps_set (i := 3) sc_law_some_lines.nd rfl (by first | exact Or.inl rfl | exact Or.inr rfl) (pe_call (ok_law_draw T) (hr.mono (by decide)) rfl T.m_law_draw T.k_law_draw T.b_law_draw .nil pass0 (pa_cons (cv 0) (pa_cons (pe_op (oc_add (K := K)) (cv 1) pe_int) pa_nil))))
      (pss_cons (ps_set (i := 4) sc_law_some_lines.nd rfl (by first | exact Or.inl rfl | exact Or.inr rfl) (pe_lst (pa_cons pe_str (pa_cons pe_str (pa_cons pe_str (pa_cons pe_str (pa_cons pe_str (pa_cons pe_str pa_nil))))))))
      (pss_cons (ps_set (i := 5) sc_law_some_lines.nd rfl (by first | exact Or.inl rfl | exact Or.inr rfl) (pe_lst pa_nil))
      (pss_cons (ps_for PassesOwn.never rfl (pi_range1 rfl T.n_range (pa_cons (cv 3) pa_nil)) (pg_name (i := 6) sc_law_some_lines.nd rfl (by first | exact Or.inl rfl | exact Or.inr rfl))
        (pss_cons (ps_set (i := 7) sc_law_some_lines.nd rfl (by first | exact Or.inl rfl | exact Or.inr rfl) (pe_op (oc_add (K := K)) (pe_op (oc_add (K := K)) (pe_op (oc_add (K := K)) pe_str (pe_callTy cc_str (by rfl) T.n_str (by decide +kernel) (pa_cons (cv 6) pa_nil))) pe_str) (pe_callTy cc_str (by rfl) T.n_str (by decide +kernel) (pa_cons (pe_call (ok_law_draw T) (hr.mono (by decide)) rfl T.m_law_draw T.k_law_draw T.b_law_draw .nil pass0 (pa_cons (cv 0) (pa_cons (pe_op oc_pow pe_int pe_int) pa_nil))) pa_nil))))
        (pss_cons (PS.cut (cs_if (ct_cmp oc_gt (cv 2) pe_int (nomark _))
          (pss_one (ps_set (i := 7) sc_law_some_lines.nd rfl (by first | exact Or.inl rfl | exact Or.inr rfl) (pe_ix (ic_seq (K := K)) (pe_lst (pa_cons pe_str (pa_cons pe_str (pa_cons pe_str (pa_cons pe_str (pa_cons pe_str pa_nil)))))) (pe_call (ok_law_draw T) (hr.mono (by decide)) rfl T.m_law_draw T.k_law_draw T.b_law_draw .nil pass0 (pa_cons (cv 0) (pa_cons (cv 2) pa_nil))) (fun _ _ => rfl))))
          pss_nil))
        (pss_one (ps_expr (pe_bm PySem.F.plainAttrs_list PySem.F.slot_list_append PySem.F.type_list_append (mc_append) (cv 5) (pa_cons (pe_op (oc_add (K := K)) (cv 7) (pe_ix (ic_seq (K := K)) (cv 4) (pe_call (ok_law_draw T) (hr.mono (by decide)) rfl T.m_law_draw T.k_law_draw T.b_law_draw .nil pass0 (pa_cons (cv 0) (pa_cons pe_int pa_nil))) (fun _ _ => rfl))) pa_nil)))))))
      (pss_one (ps_ret (cv 5)))))), ?_⟩
    refine ⟨s, _, k, xs, rfl, hs, hx, by omega, by omega, by omega, fun d ys hd0 hd1 hy => ?_⟩
    refine ⟨by show 6 ≤ sizeLine; decide, fun e he => ⟨Nat.zero_le _, fun f hf => ?_⟩⟩
    have nes : s ≠ e := ne_of_none upd_same he
    have nfs : s ≠ f := ne_of_none (upd_oth nes upd_same) hf
    have nef : e ≠ f := ne_of_none upd_same hf
    have he0 : H e = none := by rw [upd_ne nes.symm] at he; exact he
    have hf0 : H f = none := by rw [upd_ne nef.symm, upd_ne nfs.symm] at hf; exact hf
    refine ⟨d, rfl, by omega, by omega, ?_⟩
    refine for_range (lo := 0) (n := d.toNat) (fun i σ H' => ∃ (ls : List Str) (ys : List V) (u v : Option V), σ = [some (.ref s), some (.int most), some (.int words), some (.int d), some (.ref e), some (.ref f), u, v] ∧ ls.length = i ∧ (∀ l ∈ ls, Wl words l) ∧
      H' e = some (.lst [.str "", .str "", .str "", .str "", .str " ", .str "A"]) ∧ H' f = some (.lst (ls.map V.str)) ∧ H' s = some (.lst ys) ∧ SrcL (k + 1 + 3 * i) ys ∧ SameB s H H') ?_ ?_ ?_
    · exact ⟨[], ys, none, none, rfl, rfl, fun _ h => (nomatch h), upd_new upd_same hf, upd_same, upd_oth nfs (upd_oth nes upd_same), hy, SameB.wr (SameB.wr SameB.at he0) hf0⟩
    · rintro i σ H1 hi ⟨ls, ys, u, v, rfl, hl, hls, h1, h2, h3, h4, h5⟩
      have hz : 0 + (i : Int) < 10 ^ 7 := by omega
      have hz0 : 0 ≤ 0 + (i : Int) := by omega
      have l1 := str_len_num hz0 (by decide) hz
      refine ⟨log2_small (a := 64) (by omega) (by decide) (by decide), ?_⟩
      refine ⟨by rw [sizeLine_eq]; show 5 + _ ≤ _; omega, ?_⟩
      refine ⟨by rw [sizeLine_eq, str_len_app]; show 5 + _ + 1 ≤ _; omega, ?_⟩
      refine ⟨pow_bits (a := 4) (by decide) (by decide) (by decide) (by decide), ?_⟩
      refine ⟨s, _, _, ys, rfl, h3, h4, by omega, by decide, by decide, fun d1 ys1 hd10 hd11 hy1 => ?_⟩
      have l2 := str_len_num (k := 6) hd10 (by decide) hd11
      refine ⟨log2_small (a := 64) (by have : d1 < 10 ^ 6 := hd11; omega) (by decide) (by decide), ?_⟩
      have l3 : ((((Str.ofString "line ") ++ Str.ofString (toString (0 + (i : Int)))) ++ Str.ofString " ") ++ Str.ofString (toString d1)).length ≤ 39 := by
        simp only [str_len_app]; show 5 + _ + 1 + _ ≤ _; omega
      refine ⟨by rw [sizeLine_eq, ← str_len_app]; exact Nat.le_trans l3 (by decide), ?_⟩
      refine ⟨fun σ' H' => ∃ (z : Str) (ys : List V), σ' = [some (.ref s), some (.int most), some (.int words), some (.int d), some (.ref e), some (.ref f), some (.int (0 + (i : Int))), some (.str z)] ∧ z.length ≤ 39 ∧ (0 < words → z ∈ wds) ∧
        H' e = some (.lst [.str "", .str "", .str "", .str "", .str " ", .str "A"]) ∧ H' f = some (.lst (ls.map V.str)) ∧ H' s = some (.lst ys) ∧ SrcL (k + 1 + 3 * i + 2) ys ∧ SameB s H H', ?_, ?_⟩
      · refine ⟨fun h => ?_, fun h => ⟨_, ys1, rfl, l3, fun hw => absurd hw (of_decide_eq_false h), upd_oth nes.symm h1, upd_oth nfs.symm h2, upd_same, hy1.mono (by omega), h5.ws⟩⟩
        have h := of_decide_eq_true h
        refine ⟨by show 5 ≤ sizeLine; decide, fun p hp => ?_⟩
        have nps : s ≠ p := ne_of_none upd_same hp
        have npe : e ≠ p := ne_of_none (upd_oth nes.symm h1) hp
        have npf : f ≠ p := ne_of_none (upd_oth nfs.symm h2) hp
        have hp0 : H p = none := by rw [upd_ne nps.symm] at hp; exact h5.free nps.symm hp
        refine ⟨s, _, _, ys1, rfl, upd_oth nps upd_same, hy1, by omega, h, by omega, fun d2 ys2 hd20 hd21 hy2 => ?_⟩
        obtain ⟨z, hz1, hz2⟩ := atI_strs (ls := ["a", "b", "", "c c", "dd"]) hd20 (by show d2 < 5; omega)
        refine ⟨_, _, .inl (SqL.of (upd_oth nps.symm upd_same)), hz2, z, ys2, rfl, ?_, fun _ => hz1, ?_, ?_, upd_same, hy2, SameB.ws (SameB.wr (SameB.ws h5) hp0)⟩
        · have : ∀ z ∈ (["a", "b", "", "c c", "dd"] : List Str), z.length ≤ 39 := by decide
          exact this z hz1
        · exact upd_oth nes.symm (upd_oth npe (upd_oth nes.symm h1))
        · exact upd_oth nfs.symm (upd_oth npf (upd_oth nfs.symm h2))
      · rintro σ' H2 ⟨z, ys2, rfl, hz, hzw, g1, g2, g3, g4, g5⟩
        refine ⟨.inl ⟨rfl, _, SqL.of g2⟩, ?_⟩
        refine ⟨s, _, _, ys2, rfl, g3, g4, by omega, by decide, by decide, fun d3 ys3 hd30 hd31 hy3 => ?_⟩
        obtain ⟨z2, hz1, hz2⟩ := atI_strs (ls := ["", "", "", "", " ", "A"]) hd30 hd31
        refine ⟨_, _, .inl (SqL.of (upd_oth nes.symm g1)), hz2, ?_⟩
        have hz3 : z2.length ≤ 1 := by
          have : ∀ z ∈ (["", "", "", "", " ", "A"] : List Str), z.length ≤ 1 := by decide
          exact this z2 hz1
        refine ⟨by rw [sizeLine_eq]; omega, _, upd_oth nfs.symm g2, by rw [List.length_map, sizeLine_eq]; omega, ?_⟩
        refine ⟨ls ++ [z ++ z2], ys3, _, _, rfl, by rw [List.length_append, hl]; rfl, ?_, upd_oth nef (upd_oth nes.symm g1), by rw [upd_same, List.map_append]; rfl, upd_oth nfs upd_same, hy3.mono (by omega), SameB.wr g5.ws hf0⟩
        intro l hl
        rcases List.mem_append.mp hl with h | h
        · exact hls l h
        · rw [List.mem_singleton.mp h]; exact ⟨by rw [str_len_app]; omega, fun hw => ⟨z, hzw hw, z2, hz1, rfl⟩⟩
    · rintro σ H1 ⟨ls, ys, u, v, rfl, hl, hls, h1, h2, h3, h4, h5⟩
      exact q ls f ys H1 (by omega) hls hf0 h2 h3 (h4.mono (by omega)) h5
end
end Toy

namespace Toy
open PySem L2
local macro_rules | `(tactic| tm_at "w") => `(tactic| (conv => whnf))
local macro_rules | `(tactic| tm_at "fr") => `(tactic| first | assumption | exact upd_none (by assumption) | exact upd_none (upd_none (by assumption)) | exact upd_none (upd_none (upd_none (by assumption))) | exact upd_none (upd_none (upd_none (upd_none (by assumption)))))
local macro_rules | `(tactic| tm_at "ne") => `(tactic| first | assumption | (apply Ne.symm; assumption) | exact upd_none_ne (by assumption) | exact (upd_none_ne (by assumption)).symm | exact upd_none_ne (upd_none (by assumption)) | exact (upd_none_ne (upd_none (by assumption))).symm | exact upd_none_ne (upd_none (upd_none (by assumption))) | exact (upd_none_ne (upd_none (upd_none (by assumption)))).symm)
local macro_rules | `(tactic| tm_at "heap") => `(tactic| first | assumption | exact upd_same | (refine upd_new ?_ (by tm_at "fr"); tm_at "heap") | (refine upd_oth (by tm_at "ne") ?_; tm_at "heap") | (refine SameB.get (by assumption) (by tm_at "ne") ?_; tm_at "heap") | (refine Same.get (by assumption) ?_; tm_at "heap"))
local macro_rules | `(tactic| tm_at "sq") => `(tactic| first | assumption | exact SqL.of (by tm_at "heap") | exact SqT.of (by tm_at "heap"))
local macro_rules | `(tactic| tm_at "ix") => `(tactic| (conv => whnf); first | refine ⟨_, _, .inl (by tm_at "sq"), rfl, ?_⟩ | refine ⟨_, _, .inr (by tm_at "sq"), rfl, ?_⟩)
local macro_rules | `(tactic| tm_at "sb") => `(tactic| first | assumption | exact SameB.refl | (refine SameB.ws ?_; tm_at "sb") | (refine SameB.wr ?_ (by tm_at "fr"); tm_at "sb") | (refine SameB.trans ?_ (by assumption); tm_at "sb"))
/-! hunks -/
theorem int_len {n : Int} (h : n.natAbs < 10 ^ 18) : (Str.ofString (toString n)).length ≤ 60 := by
  cases n with
  | ofNat m => exact Nat.le_trans (str_len_num (k := 18) (Int.natCast_nonneg m) (by decide) (by have : m < 10 ^ 18 := h; show (m : Int) < 10 ^ 18; omega)) (by decide)
  | negSucc m =>
    have h1 : m + 1 < 10 ^ 18 := h
    have e : toString (Int.negSucc m) = "-" ++ toString (m + 1) := rfl
    have l := str_len_num (v := ((m + 1 : Nat) : Int)) (k := 18) (Int.natCast_nonneg _) (by decide) (by omega)
    have e2 : toString (((m + 1 : Nat) : Int)) = toString (m + 1) := rfl
    rw [e2, PyProof.Rows.ofString_length] at l
    rw [e, PyProof.Rows.ofString_length, String.toList_append, List.length_append]
    have : ("-" : String).toList.length = 1 := rfl
    omega
def Gx : List V → List (Str × V) → Prop := fun ws fs => ∃ n : Int, ws = [.int n] ∧ n.natAbs < 10 ^ 18 ∧ fs = ([(("index" : Str), V.int n)] : List (Str × V))
structure Hk where
  pl : Int
  be : List Str
  af : List Str
  deriving DecidableEq
/-- the hunk h stands at a -/
def HkAt (K : PySem.W.Frag) (ad : Ad) (H : Hp) (a : Addr) (h : Hk) : Prop := ∃ dx b c, H a = some (.ins ad.c_Hunk dx [("at", .int h.pl), ("before", .ref b), ("after", .ref c)]) ∧ H b = some (.tup (h.be.map V.str)) ∧ H c = some (.tup (h.af.map V.str))
theorem HkAt.same {K : PySem.W.Frag} {ad : Ad} {H H' : Hp} {a : Addr} {h : Hk} (x : HkAt K ad H a h) (e : Same H H') : HkAt K ad H' a h := by
  obtain ⟨dx, b, c, h1, h2, h3⟩ := x
  exact ⟨dx, b, c, e _ _ h1, e _ _ h2, e _ _ h3⟩
/-- a hunk that may be: a line number, and lines that differ -/
def Hk.good (h : Hk) : Prop := 0 ≤ h.pl ∧ h.be ≠ h.af
def Hk.bad (h : Hk) : Bool := decide (h.pl < 0) || decide (h.be = h.af)
/-- Hunk(at, before, after): the hunk, or BadHunk(at) -/
def spHunk (K : PySem.W.Frag) (ad : Ad) : Sp := fun vs H Q E => ∃ (x dx b c : Addr) (h : Hk), vs = [.ref x, .int h.pl, .ref b, .ref c] ∧ H x = some (.ins ad.c_Hunk dx []) ∧ H b = some (.tup (h.be.map V.str)) ∧ H c = some (.tup (h.af.map V.str)) ∧ h.pl.natAbs < 10 ^ 18 ∧
  (h.bad = true → ∀ H' d, Same H H' → H d = none → H' d = some (.xd [("index", .int h.pl)]) → E (.ref ad.c_BadHunk) (some d) H') ∧
  (h.bad = false → ∀ H', SameB x H H' → H' x = some (.ins ad.c_Hunk dx [("at", .int h.pl), ("before", .ref b), ("after", .ref c)]) → Q .non H')
def spGrowth (K : PySem.W.Frag) (ad : Ad) : Sp := fun vs H Q _ => ∃ a h, vs = [.ref a] ∧ HkAt K ad H a h ∧ Q (.int ((h.af.length : Int) - h.be.length)) H
def spEnd (K : PySem.W.Frag) (ad : Ad) : Sp := fun vs H Q _ => ∃ a h, vs = [.ref a] ∧ HkAt K ad H a h ∧ Q (.int (h.pl + h.be.length)) H
theorem at_be : (("before" : Str) == "at") = false := by decide +kernel
theorem at_af : (("after" : Str) == "at") = false := by decide +kernel
theorem be_af : (("after" : Str) == "before") = false := by decide +kernel
theorem at_be' : ¬ (("at" : Str) = "before") := by decide +kernel
theorem at_af' : ¬ (("at" : Str) = "after") := by decide +kernel
theorem be_af' : ¬ (("before" : Str) = "after") := by decide +kernel
theorem lk_at {x y z : V} : ([(("at" : Str), x), ("before", y), ("after", z)] : List (Str × V)).lookup ("at" : Str) = some x := by rw [List.lookup_cons, beq_self_eq_true]
theorem lk_be {x y z : V} : ([(("at" : Str), x), ("before", y), ("after", z)] : List (Str × V)).lookup ("before" : Str) = some y := by rw [List.lookup_cons, at_be, List.lookup_cons, beq_self_eq_true]
theorem lk_af {x y z : V} : ([(("at" : Str), x), ("before", y), ("after", z)] : List (Str × V)).lookup ("after" : Str) = some z := by rw [List.lookup_cons, at_af, List.lookup_cons, be_af, List.lookup_cons, beq_self_eq_true]
theorem putF2 {a b : Str} {x y : V} (h : ¬ a = b) : putF b y [(a, x)] = [(a, x), (b, y)] := by
  show (if a = b then _ else (a, x) :: putF b y []) = _
  rw [if_neg h]; rfl
theorem putF3 {a b c : Str} {x y z : V} (h1 : ¬ a = c) (h2 : ¬ b = c) : putF c z [(a, x), (b, y)] = [(a, x), (b, y), (c, z)] := by
  show (if a = c then _ else (a, x) :: (if b = c then _ else (b, y) :: putF c z [])) = _
  rw [if_neg h1, if_neg h2]; rfl
/-- what == says of hunks -/
def RHk (K : PySem.W.Frag) (ad : Ad) : EqvB := fun x y H b => ∃ a h c, x = .ref a ∧ y = .ref c ∧ HkAt K ad H a h ∧ ((∃ g, HkAt K ad H c g ∧ b = decide (h = g)) ∨ (∃ xs, H c = some (.tup xs) ∧ b = false))
theorem monRHk (K : PySem.W.Frag) (ad : Ad) : MonB (RHk K ad) := fun x y H H' b e ⟨a, h, c, h1, h2, h3, h4⟩ => ⟨a, h, c, h1, h2, h3.same e, h4.elim (fun ⟨g, g1, g2⟩ => .inl ⟨g, g1.same e, g2⟩) fun ⟨xs, g1, g2⟩ => .inr ⟨xs, e _ _ g1, g2⟩⟩
theorem Hk.ext_iff' (h g : Hk) : decide (h.pl = g.pl ∧ h.be = g.be ∧ h.af = g.af) = decide (h = g) := by
  obtain ⟨a, b, c⟩ := h
  obtain ⟨a', b', c'⟩ := g
  by_cases e1 : a = a' <;> by_cases e2 : b = b' <;> by_cases e3 : c = c' <;> simp [e1, e2, e3]
section
variable {P : Program} {w : World} {K : PySem.W.Frag} {mg : Str → Option Value} {base : Heap} {ad : Ad}
theorem ok_BadHunk_XinitX (T : Txt P K mg ad) : FnOk P w K mg base CX0 1 ad.a_BadHunk_XinitX ad.d_BadHunk_XinitX ["self", "index"] (spIx ad.c_BadHunk Gx) := by
  refine T.f_BadHunk_XinitX.ok sc_BadHunk_XinitX (fun vs H Q E h => ?_) (fun cdv A outer s H vs Q E hr h => ?_)
  · obtain ⟨a, x, fs, rfl, _, ⟨n, rfl, _⟩, _⟩ := h; rfl
  · obtain ⟨a, x, fs, rfl, _, ⟨n, rfl, hn, rfl⟩, ha, q⟩ := h
    refine ⟨_, pss_cons (ps_expr (pe_coinit rfl T.mg_SourceError T.bi_SourceError (pa_cons (cv 0) (pa_cons (pe_joined (.cons pe_str (.cons (pe_fmt (cv 1)) .nil))) pa_nil))))
      (pss_one (ps_ost (cv 0) (cv 1) rfl)), ?_⟩
    have l1 := int_len hn
    tm_at "w"
    refine ⟨_, rfl, by rw [sizeLine_eq]; simp only [str_len_app]; show 0 + 13 ≤ _; omega, ?_⟩
    refine .inr ⟨n, rfl, log2_small (a := 64) (by omega) (by decide) (by decide), ?_⟩
    refine ⟨_, rfl, by rw [sizeLine_eq]; simp only [str_len_app]; show 0 + 13 + (Str.ofString (toString n)).length ≤ _; omega, ?_⟩
    refine ⟨a, _, [_], rfl, by show 1 ≤ 1000; decide, T.ox_BadHunk.oex, ha, ?_⟩
    refine ⟨a, _, rfl, T.ox_BadHunk.oex, T.na_BadHunk_index, .inl ⟨ha, fun d hd hn => ?_⟩⟩
    exact q _ d (SameB.ws (SameB.new hd)) hd hn upd_same (upd_oth hn upd_same)
theorem ok_Hunk_XinitX (T : Txt P K mg ad) : FnOk P w K mg base (L2.CX P w) 4 ad.a_Hunk_XinitX ad.d_Hunk_XinitX ["self", "at", "before", "after"] (spHunk K ad) := by
  refine T.f_Hunk_XinitX.okX sc_Hunk_XinitX (fun vs H Q E h => ?_) (fun cdv A outer s H vs Q E hr h => ?_)
  · obtain ⟨x, dx, b, c, h, rfl, _⟩ := h; rfl
  · obtain ⟨x, dx, b, c, ⟨n, bs, cs⟩, rfl, hx, hb, hc, hn, e, q⟩ := h
    refine ⟨_, pss_cons (cs_if (PW.pt (cw_or (ct_cmp oc_lt (cv 1) pe_int (nomark _)) (pw_or1 (ct_cmp (oc_eq (K := K) hr.units) (cv 2) (cv 3) (nomark _)))))
        (pss_one (ps_raiseX rfl (takes_of rfl rfl rfl rfl) T.ox_BadHunk (ok_BadHunk_XinitX T) (hr.mono (by decide)) T.b_BadHunk_XinitX pass0 rfl T.mg_BadHunk (pa_cons (cv 1) pa_nil)))
        pss_nil)
      (pss_cons (cs_fld (K := K) (cv 0) (cv 1) rfl)
      (pss_cons (cs_fld (K := K) (cv 0) (cv 2) rfl)
      (pss_one (cs_fld (K := K) (cv 0) (cv 3) rfl)))), ?_⟩
    have nb : b ≠ x := fun z => by subst z; rw [hb] at hx; cases hx
    have nc : c ≠ x := fun z => by subst z; rw [hc] at hx; cases hx
    tm_at "w"
    refine ⟨fun h1 => ?_, fun h1 => ?_⟩
    · have h1 : decide (n < 0) = true := h1
      refine .t ⟨_, by show 1 ≤ 1000; decide, ⟨n, rfl, hn, rfl⟩, fun H' d s hd hx => e (by show (decide (n < 0) || _) = true; rw [h1, Bool.true_or]) H' d s hd hx⟩
    · have h1 : decide (n < 0) = false := h1
      refine .inl (rEq_strs (.inr ⟨SqT.of hb, SqT.of hc⟩) ?_)
      refine ⟨fun h2 => ?_, fun h2 => ?_⟩
      · exact ⟨_, by show 1 ≤ 1000; decide, ⟨n, rfl, hn, rfl⟩, fun H' d s hd hx => e (by show (decide (n < 0) || decide (bs = cs)) = true; rw [h2, Bool.or_true]) H' d s hd hx⟩
      · refine ⟨_, dx, [], hx, T.cl_Hunk.cl, T.na_Hunk_at, by show 0 < 1000; decide, ?_⟩
        refine ⟨_, dx, _, upd_same, T.cl_Hunk.cl, T.na_Hunk_before, by show 1 < 1000; decide, ?_⟩
        refine ⟨_, dx, _, upd_same, T.cl_Hunk.cl, T.na_Hunk_after, ?_, ?_⟩
        · show (putF ("before" : Str) (V.ref b) [(("at" : Str), V.int n)]).length < 1000
          rw [putF2 at_be']; show 2 < 1000; decide
        · refine q (by show (decide (n < 0) || decide (bs = cs)) = false; rw [h1, h2]; rfl) _ (SameB.ws (SameB.ws SameB.at)) ?_
          rw [upd_same]
          show some (HO.ins _ _ (putF ("after" : Str) (V.ref c) (putF ("before" : Str) (V.ref b) [(("at" : Str), V.int n)]))) = _
          rw [putF2 at_be', putF3 at_af' be_af']
theorem ok_Hunk_growth (T : Txt P K mg ad) : FnOk P w K mg base CX0 1 ad.a_Hunk_growth ad.d_Hunk_growth ["self"] (spGrowth K ad) := by
  refine T.f_Hunk_growth.ok sc_Hunk_growth (fun vs H Q E h => ?_) (fun cdv A outer s H vs Q E hr h => ?_)
  · obtain ⟨a, h, rfl, _⟩ := h; rfl
  · obtain ⟨a, h, rfl, ⟨dx, b, c, ha, hb, hc⟩, q⟩ := h
    refine ⟨_, pss_one (ps_ret (pe_op oc_sub (pe_callB (cc_len (K := K)) (by rfl) T.n_len (by decide +kernel) (pa_cons (ce_fld (K := K) (cv 0) rfl) pa_nil)) (pe_callB (cc_len (K := K)) (by rfl) T.n_len (by decide +kernel) (pa_cons (ce_fld (K := K) (cv 0) rfl) pa_nil)))), ?_⟩
    refine ⟨_, dx, _, _, ha, T.cl_Hunk.cl, T.na_Hunk_after, lk_af, ?_⟩
    refine ⟨_, .inr (SqT.of hc), ?_⟩
    refine ⟨_, dx, _, _, ha, T.cl_Hunk.cl, T.na_Hunk_before, lk_be, ?_⟩
    refine ⟨_, .inr (SqT.of hb), ?_⟩
    rw [List.length_map, List.length_map]
    exact q
theorem ok_Hunk_end (T : Txt P K mg ad) : FnOk P w K mg base CX0 1 ad.a_Hunk_end ad.d_Hunk_end ["self"] (spEnd K ad) := by
  refine T.f_Hunk_end.ok sc_Hunk_end (fun vs H Q E h => ?_) (fun cdv A outer s H vs Q E hr h => ?_)
  · obtain ⟨a, h, rfl, _⟩ := h; rfl
  · obtain ⟨a, h, rfl, ⟨dx, b, c, ha, hb, hc⟩, q⟩ := h
    refine ⟨_, pss_one (ps_ret (pe_op (oc_add (K := K)) (ce_fld (K := K) (cv 0) rfl) (pe_callB (cc_len (K := K)) (by rfl) T.n_len (by decide +kernel) (pa_cons (ce_fld (K := K) (cv 0) rfl) pa_nil)))), ?_⟩
    refine ⟨_, dx, _, _, ha, T.cl_Hunk.cl, T.na_Hunk_at, lk_at, ?_⟩
    refine ⟨_, dx, _, _, ha, T.cl_Hunk.cl, T.na_Hunk_before, lk_be, ?_⟩
    refine ⟨_, .inr (SqT.of hb), ?_⟩
    rw [List.length_map]
    exact q
theorem ok_Hunk_XeqX (T : Txt P K mg ad) : FnOk P w K mg base CX0 3 ad.a_Hunk_XeqX ad.d_Hunk_XeqX ["self", "other"] (spEqB (RHk K ad)) := by
  refine T.f_Hunk_XeqX.ok sc_Hunk_XeqX (fun vs H Q E h => ?_) (fun cdv A outer s H vs Q E hr h => ?_)
  · obtain ⟨x, y, b, rfl, _⟩ := h; rfl
  · obtain ⟨x, y, b, rfl, ⟨a, h, c, rfl, rfl, ho, d⟩, q⟩ := h
    refine ⟨_, pss_cons (cs_if (pt_not (ct_val (pe_callB (cc_isi (K := K)) (by rfl) T.n_isinstance (by decide +kernel) (pa_cons (cv 1) (pa_cons (pe_glob (v := .ref ad.c_Hunk) rfl T.mg_Hunk rfl) pa_nil)))))
        (pss_one (ps_ret pe_bl))
        pss_nil)
      (pss_one (ps_ret (pe_cmpR (op_cmpB (ne := false) (rcB_ft (K := K)) (hr.mono (by decide))) (pe_tup (pa_cons (ce_fld (K := K) (cv 0) rfl) (pa_cons (ce_fld (K := K) (cv 0) rfl) (pa_cons (ce_fld (K := K) (cv 0) rfl) pa_nil)))) (pe_tup (pa_cons (ce_fld (K := K) (cv 1) rfl) (pa_cons (ce_fld (K := K) (cv 1) rfl) (pa_cons (ce_fld (K := K) (cv 1) rfl) pa_nil)))) (nomark _)))), ?_⟩
    rcases d with ⟨g, hg, rfl⟩ | ⟨xs, hc, rfl⟩
    · obtain ⟨dx, b1, c1, ha, hb1, hc1⟩ := id ho
      obtain ⟨dy, b2, c2, hb, hb2, hc2⟩ := id hg
      tm_at "w"
      refine ⟨_, true, T.cl_Hunk.ins hb, T.cl_Hunk.kit T.su_Hunk (fun _ => rfl), ?_⟩
      refine ⟨fun h => (nomatch h), fun _ => ?_⟩
      refine ⟨_, dx, _, _, ha, T.cl_Hunk.cl, T.na_Hunk_at, lk_at, ?_⟩
      refine ⟨_, dx, _, _, ha, T.cl_Hunk.cl, T.na_Hunk_before, lk_be, ?_⟩
      refine ⟨_, dx, _, _, ha, T.cl_Hunk.cl, T.na_Hunk_after, lk_af, ?_⟩
      refine ⟨by show 3 ≤ sizeLine; decide, fun p1 hp1 => ?_⟩
      refine ⟨_, dy, _, _, upd_new hb hp1, T.cl_Hunk.cl, T.na_Hunk_at, lk_at, ?_⟩
      refine ⟨_, dy, _, _, upd_new hb hp1, T.cl_Hunk.cl, T.na_Hunk_before, lk_be, ?_⟩
      refine ⟨_, dy, _, _, upd_new hb hp1, T.cl_Hunk.cl, T.na_Hunk_after, lk_af, ?_⟩
      refine ⟨by show 3 ≤ sizeLine; decide, fun p2 hp2 => ?_⟩
      refine ⟨_, dT3 (SqT.of (upd_new upd_same hp2)) (SqT.of upd_same) (upd_new (upd_new hb1 hp1) hp2) (upd_new (upd_new hb2 hp1) hp2) (upd_new (upd_new hc1 hp1) hp2) (upd_new (upd_new hc2 hp1) hp2), fun H' e => ?_⟩
      rw [bne_f, Hk.ext_iff']
      exact q _ (((Same.new hp1).trans (Same.new hp2)).trans e)
    · tm_at "w"
      refine ⟨_, false, .base (.tup hc), T.cl_Hunk.kit T.st_Hunk (fun h => nomatch h), ?_⟩
      exact ⟨fun _ => q H (fun _ _ z => z), fun h => (nomatch h)⟩
end
end Toy

namespace Toy
open PySem L2
local macro_rules | `(tactic| tm_at "w") => `(tactic| (conv => whnf))
local macro_rules | `(tactic| tm_at "fr") => `(tactic| first | assumption | exact upd_none (by assumption) | exact upd_none (upd_none (by assumption)) | exact upd_none (upd_none (upd_none (by assumption))) | exact upd_none (upd_none (upd_none (upd_none (by assumption)))))
local macro_rules | `(tactic| tm_at "ne") => `(tactic| first | assumption | (apply Ne.symm; assumption) | exact upd_none_ne (by assumption) | exact (upd_none_ne (by assumption)).symm | exact upd_none_ne (upd_none (by assumption)) | exact (upd_none_ne (upd_none (by assumption))).symm | exact upd_none_ne (upd_none (upd_none (by assumption))) | exact (upd_none_ne (upd_none (upd_none (by assumption)))).symm)
local macro_rules | `(tactic| tm_at "heap") => `(tactic| first | assumption | exact upd_same | (refine upd_new ?_ (by tm_at "fr"); tm_at "heap") | (refine upd_oth (by tm_at "ne") ?_; tm_at "heap") | (refine SameB.get (by assumption) (by tm_at "ne") ?_; tm_at "heap") | (refine Same.get (by assumption) ?_; tm_at "heap"))
local macro_rules | `(tactic| tm_at "sq") => `(tactic| first | assumption | exact SqL.of (by tm_at "heap") | exact SqT.of (by tm_at "heap"))
local macro_rules | `(tactic| tm_at "ix") => `(tactic| (conv => whnf); first | refine ⟨_, _, .inl (by tm_at "sq"), rfl, ?_⟩ | refine ⟨_, _, .inr (by tm_at "sq"), rfl, ?_⟩)
local macro_rules | `(tactic| tm_at "sb") => `(tactic| first | assumption | exact SameB.refl | (refine SameB.ws ?_; tm_at "sb") | (refine SameB.wr ?_ (by tm_at "fr"); tm_at "sb") | (refine SameB.trans ?_ (by assumption); tm_at "sb"))
/-! changes -/
inductive Ch where
  | base (p : Str) | edit (p : Str) (hs : List Hk) | create (p : Str) (ls : List Str) | remove (p : Str) (ls : List Str)
  deriving DecidableEq
def HksAt (K : PySem.W.Frag) (ad : Ad) (H : Hp) (as : List Addr) (hs : List Hk) : Prop := Paired (fun a h => HkAt K ad H a h) as hs
theorem HksAt.same {K : PySem.W.Frag} {ad : Ad} {H H' : Hp} {as : List Addr} {hs : List Hk} (x : HksAt K ad H as hs) (e : Same H H') : HksAt K ad H' as hs := prd_mono (fun _ _ h => HkAt.same h e) x
def Ch.cls (ad : Ad) : Ch → Addr
  | .base _ => ad.c_Change | .edit _ _ => ad.c_Edit | .create _ _ => ad.c_Create | .remove _ _ => ad.c_Remove
def Ch.kind : Ch → Str
  | .base _ => "none" | .edit _ _ => "edit" | .create _ _ => "create" | .remove _ _ => "remove"
def Ch.path : Ch → Str
  | .base p => p | .edit p _ => p | .create p _ => p | .remove p _ => p
def ChAt (K : PySem.W.Frag) (ad : Ad) (H : Hp) (a : Addr) : Ch → Prop
  | .base p => ∃ dx, H a = some (.ins ad.c_Change dx [("path", .str p)])
  | .edit p hs => ∃ dx q as, H a = some (.ins ad.c_Edit dx [("path", .str p), ("hunks", .ref q)]) ∧ H q = some (.tup (as.map V.ref)) ∧ HksAt K ad H as hs
  | .create p ls => ∃ dx q, H a = some (.ins ad.c_Create dx [("path", .str p), ("lines", .ref q)]) ∧ H q = some (.tup (ls.map V.str))
  | .remove p ls => ∃ dx q, H a = some (.ins ad.c_Remove dx [("path", .str p), ("lines", .ref q)]) ∧ H q = some (.tup (ls.map V.str))
theorem ChAt.same {K : PySem.W.Frag} {ad : Ad} {H H' : Hp} {a : Addr} {c : Ch} (x : ChAt K ad H a c) (e : Same H H') : ChAt K ad H' a c := by
  cases c with
  | base p => obtain ⟨dx, h⟩ := x; exact ⟨dx, e _ _ h⟩
  | edit p hs => obtain ⟨dx, q, as, h1, h2, h3⟩ := x; exact ⟨dx, q, as, e _ _ h1, e _ _ h2, h3.same e⟩
  | create p ls => obtain ⟨dx, q, h1, h2⟩ := x; exact ⟨dx, q, e _ _ h1, e _ _ h2⟩
  | remove p ls => obtain ⟨dx, q, h1, h2⟩ := x; exact ⟨dx, q, e _ _ h1, e _ _ h2⟩
def PathOk (p : Str) : Prop := pathB p = true ∧ p.length ≤ 100 ∧ (Txt.split p "/").length ≤ 10 ^ 6 ∧ ∀ z ∈ Txt.split p "/", z.length ≤ 10 ^ 6
theorem okA : PathOk "src/a" := ⟨by decide +kernel, by decide +kernel, by decide +kernel, by decide +kernel⟩
theorem okB : PathOk "src/b" := ⟨by decide +kernel, by decide +kernel, by decide +kernel, by decide +kernel⟩
def IsCh (ad : Ad) (C : Addr) : Prop := C = ad.c_Change ∨ C = ad.c_Edit ∨ C = ad.c_Create ∨ C = ad.c_Remove
def spChI (ad : Ad) : Sp := fun vs H Q _ => ∃ (x dx C : Addr) (p : Str), vs = [.ref x, .str p] ∧ H x = some (.ins C dx []) ∧ IsCh ad C ∧ PathOk p ∧ ∀ H', SameB x H H' → H' x = some (.ins C dx [("path", .str p)]) → Q .non H'
def spLnI (C : Addr) : Sp := fun vs H Q _ => ∃ (x dx q : Addr) (p : Str), vs = [.ref x, .str p, .ref q] ∧ H x = some (.ins C dx []) ∧ PathOk p ∧ ∀ H', SameB x H H' → H' x = some (.ins C dx [("path", .str p), ("lines", .ref q)]) → Q .non H'
def badAt (hs : List Hk) (i : Nat) : Prop := ∃ h g, hs[i]? = some h ∧ hs[i - 1]? = some g ∧ h.pl < g.pl + g.be.length
/-- the index of the first hunk that begins too early -/
def FirstBad (hs : List Hk) : Option Nat → Prop
  | none => hs ≠ [] ∧ ∀ j, 1 ≤ j → j < hs.length → ¬ badAt hs j
  | some i => (hs = [] ∧ i = 0) ∨ (1 ≤ i ∧ i < hs.length ∧ badAt hs i ∧ ∀ j, 1 ≤ j → j < i → ¬ badAt hs j)
theorem FirstBad.uniq {hs : List Hk} {r r' : Option Nat} (h : FirstBad hs r) (h' : FirstBad hs r') : r = r' := by
  cases r with
  | none => cases r' with
    | none => rfl
    | some i => rcases h' with ⟨e, _⟩ | ⟨h1, h2, h3, _⟩
                · exact absurd e h.1
                · exact absurd h3 (h.2 i h1 h2)
  | some i => cases r' with
    | none => rcases h with ⟨e, _⟩ | ⟨h1, h2, h3, _⟩
              · exact absurd e h'.1
              · exact absurd h3 (h'.2 i h1 h2)
    | some j =>
      rcases h with ⟨e, rfl⟩ | ⟨h1, h2, h3, h4⟩
      · rcases h' with ⟨_, rfl⟩ | ⟨_, g2, _⟩
        · rfl
        · rw [e] at g2; simp at g2
      · rcases h' with ⟨e, _⟩ | ⟨g1, g2, g3, g4⟩
        · rw [e] at h2; simp at h2
        · by_cases c : i < j
          · exact absurd h3 (g4 i h1 c)
          · by_cases c' : j < i
            · exact absurd g3 (h4 j g1 c')
            · rw [show i = j by omega]
theorem prd_len {α β : Type} {F : α → β → Prop} : ∀ {l₁ : List α} {l₂ : List β}, Paired F l₁ l₂ → l₁.length = l₂.length
  | _, _, .nil => rfl
  | _, _, .cons _ t => by rw [List.length_cons, List.length_cons, prd_len t]
theorem HkAt.sameB {K : PySem.W.Frag} {ad : Ad} {H H' : Hp} {a x C dx : Addr} {h : Hk} (hx : H x = some (.ins C dx [])) (s : SameB x H H') (g : HkAt K ad H a h) : HkAt K ad H' a h := by
  obtain ⟨dy, b, c, h1, h2, h3⟩ := g
  exact ⟨dy, b, c, s.get (fun z => by subst z; rw [h1] at hx; cases hx) h1, s.get (fun z => by subst z; rw [h2] at hx; cases hx) h2, s.get (fun z => by subst z; rw [h3] at hx; cases hx) h3⟩
theorem hk_get {K : PySem.W.Frag} {ad : Ad} {H : Hp} {as : List Addr} {hs : List Hk} (x : HksAt K ad H as hs) {i : Nat} (hi : i < hs.length) : ∃ a h, as[i]? = some a ∧ hs[i]? = some h ∧ HkAt K ad H a h := by
  have e : as[i]? = some (as[i]'(by rw [prd_len x]; exact hi)) := List.getElem?_eq_getElem _
  obtain ⟨h, h1, h2⟩ := prd_get x e
  exact ⟨_, h, e, h1, h2⟩
theorem lk_end {x y z : V} : ([(("at" : Str), x), ("before", y), ("after", z)] : List (Str × V)).lookup ("end" : Str) = none := by
  rw [List.lookup_cons, show (("end" : Str) == "at") = false by decide +kernel, List.lookup_cons, show (("end" : Str) == "before") = false by decide +kernel, List.lookup_cons, show (("end" : Str) == "after") = false by decide +kernel]; rfl
def spEdI (K : PySem.W.Frag) (ad : Ad) : Sp := fun vs H Q E => ∃ (x dx q : Addr) (p : Str) (as : List Addr) (hs : List Hk), vs = [.ref x, .str p, .ref q] ∧ H x = some (.ins ad.c_Edit dx []) ∧ PathOk p ∧ H q = some (.tup (as.map V.ref)) ∧ HksAt K ad H as hs ∧ hs.length ≤ 1000 ∧
  (∀ i, FirstBad hs (some i) → ∀ H' d, SameB x H H' → H d = none → H' d = some (.xd [("index", .int (i : Int))]) → E (.ref ad.c_BadHunk) (some d) H') ∧
  (FirstBad hs none → ∀ H', SameB x H H' → H' x = some (.ins ad.c_Edit dx [("path", .str p), ("hunks", .ref q)]) → Q .non H')
theorem pa_hu' : ¬ (("path" : Str) = "hunks") := by decide +kernel
theorem pa_li' : ¬ (("path" : Str) = "lines") := by decide +kernel
section
variable {P : Program} {w : World} {K : PySem.W.Frag} {mg : Str → Option Value} {base : Heap} {ad : Ad}
theorem isCh_cl (T : Txt P K mg ad) {C : Addr} (h : IsCh ad C) : Cls K C ∧ NoAttr K C "path" := by
  rcases h with rfl | rfl | rfl | rfl
  · exact ⟨T.cl_Change.cl, T.na_Change_path⟩
  · exact ⟨T.cl_Edit.cl, T.na_Edit_path⟩
  · exact ⟨T.cl_Create.cl, T.na_Create_path⟩
  · exact ⟨T.cl_Remove.cl, T.na_Remove_path⟩
theorem ok_Change_XinitX (T : Txt P K mg ad) : FnOk P w K mg base CX0 3 ad.a_Change_XinitX ad.d_Change_XinitX ["self", "path"] (spChI ad) := by
  refine T.f_Change_XinitX.ok sc_Change_XinitX (fun vs H Q E h => ?_) (fun cdv A outer s H vs Q E hr h => ?_)
  · obtain ⟨x, dx, C, p, rfl, _⟩ := h; rfl
  · obtain ⟨x, dx, C, p, rfl, hx, hC, ⟨p1, p2, p3, p4⟩, q⟩ := h
    refine ⟨_, pss_cons (cs_if (pt_not (ct_val (pe_call (ok_is_path T) (hr.mono (by decide)) rfl T.m_is_path T.k_is_path T.b_is_path .nil pass0 (pa_cons (cv 1) pa_nil))))
        (pss_one ps_dead)
        pss_nil)
      (pss_one (cs_fld (K := K) (cv 0) (cv 1) rfl)), ?_⟩
    refine ⟨p, rfl, by omega, p3, p4, fun H1 s1 => ?_⟩
    rw [p1]
    refine .f ⟨_, dx, [], s1 _ _ hx, (isCh_cl T hC).1, (isCh_cl T hC).2, by show 0 < 1000; decide, ?_⟩
    exact q _ (SameB.ws (SameB.of s1)) upd_same
theorem ok_Create_XinitX (T : Txt P K mg ad) : FnOk P w K mg base CX0 5 ad.a_Create_XinitX ad.d_Create_XinitX ["self", "path", "lines"] (spLnI ad.c_Create) := by
  refine T.f_Create_XinitX.ok sc_Create_XinitX (fun vs H Q E h => ?_) (fun cc oc od osl A outer s H vs Q E lk hpar hr h => ?_)
  · obtain ⟨x, dx, q, p, rfl, _⟩ := h; rfl
  · obtain ⟨x, dx, q, p, rfl, hx, hp, k⟩ := h
    refine ⟨_, pssa_cons (psa_expr (pea_super (ar := argOf s_Create_XinitX) T.stx_Create_XinitX rfl rfl (by decide) rfl lk (by rw [hpar]; rfl) rfl rfl (by first | exact Or.inl rfl | exact Or.inr (Or.inl rfl)) (by decide) (j := 3) rfl (ok_Change_XinitX T) (hr.mono (by decide)) T.b_Change_XinitX .nil pass0 T.fn_Change_XinitX T.fi_Change_XinitX (pa_cons (cv 1) pa_nil)))
      (pss_one (cs_fld (K := K) (cv 0) (cv 2) rfl)), ?_⟩
    refine ⟨x, _, dx, _, rfl, rfl, hx, ⟨T.mr_Create, T.si_Create⟩, ?_⟩
    refine ⟨x, dx, _, p, rfl, hx, .inr (.inr (.inl rfl)), hp, fun H1 s1 h1 => ?_⟩
    refine ⟨_, dx, _, h1, T.cl_Create.cl, T.na_Create_lines, by show 1 < 1000; decide, ?_⟩
    exact k _ (SameB.ws s1) (by rw [upd_same, putF2 pa_li'])
theorem ok_Remove_XinitX (T : Txt P K mg ad) : FnOk P w K mg base CX0 5 ad.a_Remove_XinitX ad.d_Remove_XinitX ["self", "path", "lines"] (spLnI ad.c_Remove) := by
  refine T.f_Remove_XinitX.ok sc_Remove_XinitX (fun vs H Q E h => ?_) (fun cc oc od osl A outer s H vs Q E lk hpar hr h => ?_)
  · obtain ⟨x, dx, q, p, rfl, _⟩ := h; rfl
  · obtain ⟨x, dx, q, p, rfl, hx, hp, k⟩ := h
    refine ⟨_, pssa_cons (psa_expr (pea_super (ar := argOf s_Remove_XinitX) T.stx_Remove_XinitX rfl rfl (by decide) rfl lk (by rw [hpar]; rfl) rfl rfl (by first | exact Or.inl rfl | exact Or.inr (Or.inl rfl)) (by decide) (j := 3) rfl (ok_Change_XinitX T) (hr.mono (by decide)) T.b_Change_XinitX .nil pass0 T.fn_Change_XinitX T.fi_Change_XinitX (pa_cons (cv 1) pa_nil)))
      (pss_one (cs_fld (K := K) (cv 0) (cv 2) rfl)), ?_⟩
    refine ⟨x, _, dx, _, rfl, rfl, hx, ⟨T.mr_Remove, T.si_Remove⟩, ?_⟩
    refine ⟨x, dx, _, p, rfl, hx, .inr (.inr (.inr rfl)), hp, fun H1 s1 h1 => ?_⟩
    refine ⟨_, dx, _, h1, T.cl_Remove.cl, T.na_Remove_lines, by show 1 < 1000; decide, ?_⟩
    exact k _ (SameB.ws s1) (by rw [upd_same, putF2 pa_li'])
theorem ok_Edit_XinitX (T : Txt P K mg ad) : FnOk P w K mg base (L2.CX P w) 5 ad.a_Edit_XinitX ad.d_Edit_XinitX ["self", "path", "hunks"] (spEdI K ad) := by
  refine T.f_Edit_XinitX.ok sc_Edit_XinitX (fun vs H Q E h => ?_) (fun cc oc od osl A outer s H vs Q E lk hpar hr h => ?_)
  · obtain ⟨x, dx, q, p, as, hs, rfl, _⟩ := h; rfl
  · obtain ⟨x, dx, q, p, as, hs, rfl, hx, hp, hq, ha, hl, e, k⟩ := h
    refine ⟨_, pssa_cons (psa_expr (pea_super (ar := argOf s_Edit_XinitX) T.stx_Edit_XinitX rfl rfl (by decide) rfl lk (by rw [hpar]; rfl) rfl rfl (by first | exact Or.inl rfl | exact Or.inr (Or.inl rfl)) (by decide) (j := 3) rfl (ok_Change_XinitX T) (hr.mono (by decide)) T.b_Change_XinitX .nil pass0 T.fn_Change_XinitX T.fi_Change_XinitX (pa_cons (cv 1) pa_nil)))
      (pss_cons (cs_if (ct_cmp (op_cmpB (ne := false) (rcB_tup (D := DFl) monB_flat eqB_flat) (hr.mono (by decide))) (cv 2) (pe_tup pa_nil) (nomark _))
        (pss_one (ps_raiseX rfl (takes_of rfl rfl rfl rfl) T.ox_BadHunk (ok_BadHunk_XinitX T) (hr.mono (by decide)) T.b_BadHunk_XinitX pass0 rfl T.mg_BadHunk (pa_cons pe_int pa_nil)))
        pss_nil)
      (pss_cons (ps_for (passes_of rfl) rfl (pi_range2 rfl T.n_range (pa_cons pe_int (pa_cons (pe_callB (cc_len (K := K)) (by rfl) T.n_len (by decide +kernel) (pa_cons (cv 2) pa_nil)) pa_nil))) (pg_name (i := 4) sc_Edit_XinitX.nd rfl (by first | exact Or.inl rfl | exact Or.inr rfl))
        (pss_one (cs_if (ct_cmp oc_lt (ce_fld (K := K) (pe_ix (ic_seq (K := K)) (cv 2) (cv 4) (fun _ _ => rfl)) rfl) (pe_meth0 (pe_ix (ic_seq (K := K)) (cv 2) (pe_op oc_sub (cv 4) pe_int) (fun _ _ => rfl)) T.cl_Hunk.cl T.me_Hunk_end (ok_Hunk_end T) (hr.mono (by decide)) T.b_Hunk_end .nil pass0) (nomark _))
          (pss_one (ps_raiseX rfl (takes_of rfl rfl rfl rfl) T.ox_BadHunk (ok_BadHunk_XinitX T) (hr.mono (by decide)) T.b_BadHunk_XinitX pass0 rfl T.mg_BadHunk (pa_cons (cv 4) pa_nil)))
          pss_nil)))
      (pss_one (cs_fld (K := K) (cv 0) (cv 2) rfl)))), ?_⟩
    refine ⟨x, _, dx, _, rfl, rfl, hx, ⟨T.mr_Edit, T.si_Edit⟩, ?_⟩
    refine ⟨x, dx, _, p, rfl, hx, .inr (.inl rfl), hp, fun H1 s1 h1 => ?_⟩
    have hq1 : H1 q = some (.tup (as.map V.ref)) := s1.get (fun z => by subst z; rw [hq] at hx; cases hx) hq
    have ha1 : HksAt K ad H1 as hs := prd_mono (fun _ _ g => HkAt.sameB hx s1 g) ha
    have hlen : as.length = hs.length := prd_len ha
    refine ⟨by show 0 ≤ sizeLine; decide, fun p0 hp0 => ?_⟩
    refine ⟨_, ⟨q, p0, _, _, fun _ => false, rfl, rfl, SqT.of (upd_new hq1 hp0), SqT.of upd_same, fun i x y hx hy => by simp at hy, rfl⟩, fun H2 e2 => ?_⟩
    have hp00 : H p0 = none := s1.free (fun z => by subst z; rw [hp0] at h1; cases h1) hp0
    have s2 : SameB x H H2 := (s1.wr hp00).trans (SameB.of e2)
    have s12 : Same H1 H2 := (Same.new hp0).trans e2
    replace hq1 := s12 _ _ hq1
    replace ha1 := ha1.same s12
    replace h1 := s12 _ _ h1
    rw [bne_f]
    refine ⟨fun h2 => ?_, fun h2 => ?_⟩
    · have h0 : hs = [] := by
        have := (Bool.and_eq_true_iff.mp h2).2
        rw [List.length_map] at this
        have := eq_of_beq this
        exact List.length_eq_zero_iff.mp (by rw [← hlen, this]; rfl)
      exact ⟨_, by show 1 ≤ 1000; decide, ⟨0, rfl, by decide, rfl⟩, fun H' d s hd hx => e 0 (.inl ⟨h0, rfl⟩) H' d (s2.trans (SameB.of s)) (s2.free (fun z => by subst z; rw [hd] at h1; cases h1) hd) hx⟩
    · have h0 : hs ≠ [] := by
        intro z
        rw [z] at hlen
        have : as = [] := List.length_eq_zero_iff.mp hlen
        subst this
        simp at h2
      refine ⟨_, .inr (SqT.of hq1), ?_⟩
      rw [List.length_map, hlen]
      refine ⟨1, hs.length, rfl, by omega, ?_⟩
      refine for_range (lo := 1) (n := ((hs.length : Int) - 1).toNat) (fun i σ H' => ∃ u, σ = [some (.ref x), some (.str p), some (.ref q), some (.ref ad.c_Edit), u] ∧ H' = H2 ∧ ∀ j, 1 ≤ j → j < 1 + i → ¬ badAt hs j) ⟨_, rfl, rfl, fun j a b => by omega⟩ ?_ ?_
      · rintro i σ H' hi ⟨u, rfl, rfl, hb⟩
        have hi2 : 1 + i < hs.length := by omega
        obtain ⟨a1, h1, e1, e1', g1⟩ := hk_get ha1 hi2
        obtain ⟨a0, h0, e0, e0', g0⟩ := hk_get ha1 (show i < hs.length by omega)
        obtain ⟨dx1, b1, c1, k1, k2, k3⟩ := id g1
        obtain ⟨dx0, b0, c0, l1, l2, l3⟩ := id g0
        refine ⟨_, _, .inr (SqT.of hq1), atI_map (f := V.ref) (j := 1 + i) (by omega) e1, ?_⟩
        refine ⟨_, dx1, _, _, k1, T.cl_Hunk.cl, T.na_Hunk_at, lk_at, ?_⟩
        refine ⟨_, _, .inr (SqT.of hq1), atI_map (f := V.ref) (j := i) (by omega) e0, ?_⟩
        refine ⟨a0, dx0, _, rfl, l1, lk_end, a0, _, rfl, g0, ?_⟩
        refine ⟨fun h => ?_, fun h => ?_⟩
        · have h : decide (h1.pl < h0.pl + h0.be.length) = true := h
          refine ⟨_, by show 1 ≤ 1000; decide, ⟨1 + i, rfl, by omega, rfl⟩, fun H' d s hd hx => ?_⟩
          refine e (1 + i) (.inr ⟨by omega, hi2, ⟨h1, h0, e1', by rw [show 1 + i - 1 = i by omega]; exact e0', of_decide_eq_true h⟩, hb⟩) H' d (s2.trans (SameB.of s)) (s2.free (fun z => by subst z; rw [hd] at h1; cases h1) hd) ?_
          rw [show ((1 + i : Nat) : Int) = 1 + (i : Int) by omega]; exact hx
        · have h : decide (h1.pl < h0.pl + h0.be.length) = false := h
          refine ⟨_, rfl, rfl, fun j j1 j2 => ?_⟩
          by_cases c : j < 1 + i
          · exact hb j j1 c
          · obtain rfl : j = 1 + i := by omega
            rintro ⟨h1', h0', z1, z2, z3⟩
            rw [e1'] at z1
            rw [show 1 + i - 1 = i by omega, e0'] at z2
            cases z1; cases z2
            exact of_decide_eq_false h z3
      · rintro σ H' ⟨u, rfl, rfl, hb⟩
        refine ⟨_, dx, _, h1, T.cl_Edit.cl, T.na_Edit_hunks, by show 1 < 1000; decide, ?_⟩
        exact k ⟨h0, fun j j1 j2 => hb j j1 (by omega)⟩ _ (SameB.ws s2) (by rw [upd_same, putF2 pa_hu'])
end
end Toy

namespace Toy
open PySem L2
local macro_rules | `(tactic| tm_at "w") => `(tactic| (conv => whnf))
local macro_rules | `(tactic| tm_at "fr") => `(tactic| first | assumption | exact upd_none (by assumption) | exact upd_none (upd_none (by assumption)) | exact upd_none (upd_none (upd_none (by assumption))) | exact upd_none (upd_none (upd_none (upd_none (by assumption)))))
local macro_rules | `(tactic| tm_at "ne") => `(tactic| first | assumption | (apply Ne.symm; assumption) | exact upd_none_ne (by assumption) | exact (upd_none_ne (by assumption)).symm | exact upd_none_ne (upd_none (by assumption)) | exact (upd_none_ne (upd_none (by assumption))).symm | exact upd_none_ne (upd_none (upd_none (by assumption))) | exact (upd_none_ne (upd_none (upd_none (by assumption)))).symm)
local macro_rules | `(tactic| tm_at "heap") => `(tactic| first | assumption | exact upd_same | (refine upd_new ?_ (by tm_at "fr"); tm_at "heap") | (refine upd_oth (by tm_at "ne") ?_; tm_at "heap") | (refine SameB.get (by assumption) (by tm_at "ne") ?_; tm_at "heap") | (refine Same.get (by assumption) ?_; tm_at "heap"))
local macro_rules | `(tactic| tm_at "sq") => `(tactic| first | assumption | exact SqL.of (by tm_at "heap") | exact SqT.of (by tm_at "heap"))
local macro_rules | `(tactic| tm_at "ix") => `(tactic| (conv => whnf); first | refine ⟨_, _, .inl (by tm_at "sq"), rfl, ?_⟩ | refine ⟨_, _, .inr (by tm_at "sq"), rfl, ?_⟩)
local macro_rules | `(tactic| tm_at "sb") => `(tactic| first | assumption | exact SameB.refl | (refine SameB.ws ?_; tm_at "sb") | (refine SameB.wr ?_ (by tm_at "fr"); tm_at "sb") | (refine SameB.trans ?_ (by assumption); tm_at "sb"))
/-! == of hunks in tuples, of changes -/
theorem HkAt.uniq {K : PySem.W.Frag} {ad : Ad} {H : Hp} {a : Addr} {h g : Hk} (x : HkAt K ad H a h) (y : HkAt K ad H a g) : h = g := by
  obtain ⟨dx, b, c, h1, h2, h3⟩ := x
  obtain ⟨dy, b', c', g1, g2, g3⟩ := y
  rw [h1] at g1
  injection g1 with g1
  injection g1 with _ g0 g1
  injection g1 with z1 g1
  injection g1 with z2 g1
  injection g1 with z3 g1
  injection z1 with _ z1
  injection z1 with z1
  injection z2 with _ z2
  injection z2 with z2
  injection z3 with _ z3
  injection z3 with z3
  subst z2; subst z3
  rw [h2] at g2
  rw [h3] at g3
  injection g2 with g2
  injection g2 with g2
  injection g3 with g3
  injection g3 with g3
  obtain ⟨a1, b1, c1⟩ := h
  obtain ⟨a2, b2, c2⟩ := g
  have e1 : a1 = a2 := z1
  have e2 : b1 = b2 := strs_inj g2
  have e3 : c1 = c2 := strs_inj g3
  rw [e1, e2, e3]
theorem all_eq {α : Type} [DecidableEq α] (hs gs : List α) : ((List.range (min hs.length gs.length)).all (fun i => decide (hs[i]? = gs[i]?)) && hs.length == gs.length) = decide (hs = gs) := by
  by_cases e : hs = gs
  · subst e
    rw [decide_eq_true rfl, beq_self_eq_true, Bool.and_true, List.all_eq_true]
    intro i _; exact decide_eq_true rfl
  · rw [decide_eq_false e]
    by_cases hl : hs.length = gs.length
    · rw [hl, beq_self_eq_true, Bool.and_true, Nat.min_self]
      cases c : (List.range gs.length).all (fun i => decide (hs[i]? = gs[i]?)) with
      | false => rfl
      | true =>
        refine absurd (List.ext_getElem? fun i => ?_) e
        by_cases hi : i < gs.length
        · exact of_decide_eq_true (List.all_eq_true.mp c i (List.mem_range.mpr hi))
        · rw [List.getElem?_eq_none (by omega), List.getElem?_eq_none (by omega)]
    · rw [beq_false_of_ne hl, Bool.and_false]
/-- hunks as items of tuples -/
def DHr (K : PySem.W.Frag) (ad : Ad) : EqvB := fun x y H b => DOw K ad.a_Hunk_XeqX (RHk K ad) x y H b ∧ ∃ a c, x = .ref a ∧ y = .ref c ∧ (a = c → b = true)
theorem monDHr (K : PySem.W.Frag) (ad : Ad) : MonB (DHr K ad) := fun x y H H' b e ⟨h1, h2⟩ => ⟨monB_own (monRHk K ad) x y H H' b e h1, h2⟩
section
variable {X : Cx} {n : Nat} {ne : Bool}
theorem rcB_ownK {K : PySem.W.Frag} {CX : CXT} {f : Addr} {fd : FuncData} {ps : List Str} {R : EqvB} {E : XK} (F : FnOk X.prog X.w X.K X.mg X.base CX n f fd ps (spEqB R)) (hf : PySem.W.isFn X.K (.ref f) = true) (hb : Binds X.K fd ps []) (hx : Passes CX X E) (hK : X.K = K := by rfl) : RcB X (n + 1) ne (DOw K f R) := hK ▸ rcB_own F hf hb hx
theorem rcB_hksK {K : PySem.W.Frag} {ad : Ad} {fd : FuncData} {ps : List Str} (F : FnOk X.prog X.w X.K X.mg X.base CX0 n ad.a_Hunk_XeqX fd ps (spEqB (RHk K ad))) (hf : PySem.W.isFn X.K (.ref ad.a_Hunk_XeqX) = true) (hb : Binds X.K fd ps []) (hK : X.K = K := by rfl) : RcB X (n + 1 + 1) ne (DTp K (DHr K ad)) := by
  subst hK
  exact rcB_tup (monDHr X.K ad) (RcB.eqB (RcB.imp (rcB_own F hf hb pass0) fun _ _ _ _ h => h.1) fun _ _ _ _ h => h.2)
end
section
variable {P : Program} {w : World} {K : PySem.W.Frag} {mg : Str → Option Value} {base : Heap} {ad : Ad}
theorem ownHk (T : Txt P K mg ad) : OwnE K ad.c_Hunk ad.a_Hunk_XeqX := ⟨T.me_Hunk_XeqX.at_, T.ne_Hunk, T.cl_Hunk.hm⟩
/-- == of two hunks, of a hunk and a tuple -/
theorem dHk (T : Txt P K mg ad) {H : Hp} {a c : Addr} {h g : Hk} (x : HkAt K ad H a h) (y : HkAt K ad H c g) : DOw K ad.a_Hunk_XeqX (RHk K ad) (.ref a) (.ref c) H (decide (h = g)) := by
  obtain ⟨dx, _, _, ha, _⟩ := id x
  obtain ⟨dy, _, _, hc, _⟩ := id y
  exact ⟨a, _, dx, _, rfl, ha, .inl ⟨_, .ins hc, ownHk T, T.nf_Hunk_Hunk, a, h, c, rfl, rfl, x, .inl ⟨g, y, rfl⟩⟩⟩
theorem dHkT (T : Txt P K mg ad) {H : Hp} {a c : Addr} {h : Hk} {xs : List V} (x : HkAt K ad H a h) (y : H c = some (.tup xs)) : DOw K ad.a_Hunk_XeqX (RHk K ad) (.ref a) (.ref c) H false := by
  obtain ⟨dx, _, _, ha, _⟩ := id x
  exact ⟨a, _, dx, _, rfl, ha, .inl ⟨_, .tup y, ownHk T, T.nt_Hunk, a, h, c, rfl, rfl, x, .inr ⟨xs, y, rfl⟩⟩⟩
theorem dHr (T : Txt P K mg ad) {H : Hp} {a c : Addr} {h g : Hk} (x : HkAt K ad H a h) (y : HkAt K ad H c g) : DHr K ad (.ref a) (.ref c) H (decide (h = g)) :=
  ⟨dHk T x y, a, c, rfl, rfl, fun e => by subst e; exact decide_eq_true (x.uniq y)⟩
theorem dHks (T : Txt P K mg ad) {H : Hp} {p q : Addr} {as bs : List Addr} {hs gs : List Hk} (hp : H p = some (.tup (as.map V.ref))) (hq : H q = some (.tup (bs.map V.ref))) (x : HksAt K ad H as hs) (y : HksAt K ad H bs gs) :
    DTp K (DHr K ad) (.ref p) (.ref q) H (decide (hs = gs)) := by
  refine ⟨p, q, _, _, fun i => decide (hs[i]? = gs[i]?), rfl, rfl, SqT.of hp, SqT.of hq, fun i u v hu hv => ?_, ?_⟩
  · rw [List.getElem?_map] at hu hv
    obtain ⟨a, ea, rfl⟩ := Option.map_eq_some_iff.mp hu
    obtain ⟨b, eb, rfl⟩ := Option.map_eq_some_iff.mp hv
    obtain ⟨h, e1, h1⟩ := prd_get x ea
    obtain ⟨g, e2, g1⟩ := prd_get y eb
    show DHr K ad _ _ H (decide (hs[i]? = gs[i]?))
    rw [e1, e2, show decide (some h = some g) = decide (h = g) by by_cases z : h = g <;> simp [z]]
    exact dHr T h1 g1
  · rw [List.length_map, List.length_map, prd_len x, prd_len y, all_eq]
/-! what changes tell -/
theorem ChAt.ins {H : Hp} {a : Addr} {o : Ch} (x : ChAt K ad H a o) : ∃ dx fs, H a = some (.ins (o.cls ad) dx fs) ∧ fs.lookup ("path" : Str) = some (.str o.path) ∧ ∀ m : Str, m ≠ "path" → m ≠ "hunks" → m ≠ "lines" → fs.lookup m = none := by
  have none1 : ∀ (m : Str) (u : V), m ≠ "path" → ([(("path" : Str), u)] : List (Str × V)).lookup m = none := fun m u h1 => by
    rw [List.lookup_cons, beq_false_of_ne h1]; rfl
  have none2 : ∀ (m k : Str) (u v : V), m ≠ "path" → m ≠ k → ([(("path" : Str), u), (k, v)] : List (Str × V)).lookup m = none := fun m k u v h1 h2 => by
    rw [List.lookup_cons, beq_false_of_ne h1, List.lookup_cons, beq_false_of_ne h2]; rfl
  cases o with
  | base p => obtain ⟨dx, h⟩ := x; exact ⟨dx, _, h, by rw [List.lookup_cons, beq_self_eq_true]; rfl, fun m h1 _ _ => none1 m _ h1⟩
  | edit p hs => obtain ⟨dx, q, as, h, _⟩ := x; exact ⟨dx, _, h, by rw [List.lookup_cons, beq_self_eq_true]; rfl, fun m h1 h2 _ => none2 m _ _ _ h1 h2⟩
  | create p ls => obtain ⟨dx, q, h, _⟩ := x; exact ⟨dx, _, h, by rw [List.lookup_cons, beq_self_eq_true]; rfl, fun m h1 _ h2 => none2 m _ _ _ h1 h2⟩
  | remove p ls => obtain ⟨dx, q, h, _⟩ := x; exact ⟨dx, _, h, by rw [List.lookup_cons, beq_self_eq_true]; rfl, fun m h1 _ h2 => none2 m _ _ _ h1 h2⟩
def spCo0 : Sp := fun vs H Q _ => ∃ a, vs = [.ref a] ∧ ∀ p, H p = none → Q (.ref p) (upd H p (.tup []))
def spCoF (C : Addr) (f : Str) : Sp := fun vs H Q _ => ∃ a dx fs v, vs = [.ref a] ∧ H a = some (.ins C dx fs) ∧ fs.lookup f = some v ∧ Q v H
theorem ok_Change_content (T : Txt P K mg ad) : FnOk P w K mg base CX0 1 ad.a_Change_content ad.d_Change_content ["self"] spCo0 := by
  refine T.f_Change_content.ok sc_Change_content (fun vs H Q E h => ?_) (fun cdv A outer s H vs Q E hr h => ?_)
  · obtain ⟨a, rfl, _⟩ := h; rfl
  · obtain ⟨a, rfl, q⟩ := h
    exact ⟨_, pss_one (ps_ret (pe_tup pa_nil)), Nat.zero_le _, q⟩
theorem ok_Edit_content (T : Txt P K mg ad) : FnOk P w K mg base CX0 1 ad.a_Edit_content ad.d_Edit_content ["self"] (spCoF ad.c_Edit "hunks") := by
  refine T.f_Edit_content.ok sc_Edit_content (fun vs H Q E h => ?_) (fun cdv A outer s H vs Q E hr h => ?_)
  · obtain ⟨a, dx, fs, v, rfl, _⟩ := h; rfl
  · obtain ⟨a, dx, fs, v, rfl, ha, hl, q⟩ := h
    exact ⟨_, pss_one (ps_ret (ce_fld (K := K) (cv 0) rfl)), _, dx, _, _, ha, T.cl_Edit.cl, T.na_Edit_hunks, hl, q⟩
theorem ok_Create_content (T : Txt P K mg ad) : FnOk P w K mg base CX0 1 ad.a_Create_content ad.d_Create_content ["self"] (spCoF ad.c_Create "lines") := by
  refine T.f_Create_content.ok sc_Create_content (fun vs H Q E h => ?_) (fun cdv A outer s H vs Q E hr h => ?_)
  · obtain ⟨a, dx, fs, v, rfl, _⟩ := h; rfl
  · obtain ⟨a, dx, fs, v, rfl, ha, hl, q⟩ := h
    exact ⟨_, pss_one (ps_ret (ce_fld (K := K) (cv 0) rfl)), _, dx, _, _, ha, T.cl_Create.cl, T.na_Create_lines, hl, q⟩
theorem ok_Remove_content (T : Txt P K mg ad) : FnOk P w K mg base CX0 1 ad.a_Remove_content ad.d_Remove_content ["self"] (spCoF ad.c_Remove "lines") := by
  refine T.f_Remove_content.ok sc_Remove_content (fun vs H Q E h => ?_) (fun cdv A outer s H vs Q E hr h => ?_)
  · obtain ⟨a, dx, fs, v, rfl, _⟩ := h; rfl
  · obtain ⟨a, dx, fs, v, rfl, ha, hl, q⟩ := h
    exact ⟨_, pss_one (ps_ret (ce_fld (K := K) (cv 0) rfl)), _, dx, _, _, ha, T.cl_Remove.cl, T.na_Remove_lines, hl, q⟩
/-- what content gives -/
def CtAt (K : PySem.W.Frag) (ad : Ad) (H : Hp) (q : Addr) : Ch → Prop
  | .base _ => H q = some (.tup [])
  | .edit _ hs => ∃ as, H q = some (.tup (as.map V.ref)) ∧ HksAt K ad H as hs
  | .create _ ls => H q = some (.tup (ls.map V.str))
  | .remove _ ls => H q = some (.tup (ls.map V.str))
theorem CtAt.same {H H' : Hp} {a : Addr} {c : Ch} (x : CtAt K ad H a c) (e : Same H H') : CtAt K ad H' a c := by
  cases c with
  | base p => exact e _ _ x
  | edit p hs => obtain ⟨as, h1, h2⟩ := x; exact ⟨as, e _ _ h1, h2.same e⟩
  | create p ls => exact e _ _ x
  | remove p ls => exact e _ _ x
def tCont (ad : Ad) (ta : TE) : TE := fun σ H Q => tMeth ad.c_Change "content" spCo0 [] E0 ta tNil σ H Q ∨ tMeth ad.c_Edit "content" (spCoF ad.c_Edit "hunks") [] E0 ta tNil σ H Q ∨ tMeth ad.c_Create "content" (spCoF ad.c_Create "lines") [] E0 ta tNil σ H Q ∨ tMeth ad.c_Remove "content" (spCoF ad.c_Remove "lines") [] E0 ta tNil σ H Q
theorem co1 : ("content" : Str) ≠ "path" := by decide +kernel
theorem co2 : ("content" : Str) ≠ "hunks" := by decide +kernel
theorem co3 : ("content" : Str) ≠ "lines" := by decide +kernel
theorem hu_pa : (("hunks" : Str) == "path") = false := by decide +kernel
theorem li_pa : (("lines" : Str) == "path") = false := by decide +kernel
theorem cont_ask {i : Nat} {σ : St} {H : Hp} {Q : VK} {a : Addr} {o : Ch} (e : σ[i]? = some (some (.ref a))) (h : ChAt K ad H a o) (q : ∀ p H', Same H H' → CtAt K ad H' p o → Q (.ref p) H') : tCont ad (tV i) σ H Q := by
  have ev : ∀ R : V → Hp → Prop, R (.ref a) H → tV i σ H R := fun R r => by unfold tV; rw [e]; exact r
  obtain ⟨_, _, e0, _, no⟩ := h.ins
  cases o with
  | base p => obtain ⟨dx, ha⟩ := h; exact .inl (ev _ ⟨a, _, _, rfl, e0, no _ co1 co2 co3, a, rfl, fun p hp => q p _ (Same.new hp) upd_same⟩)
  | edit p hs => obtain ⟨dx, u, as, h1, h2, h3⟩ := h; exact .inr (.inl (ev _ ⟨a, _, _, rfl, e0, no _ co1 co2 co3, a, dx, _, _, rfl, h1, by rw [List.lookup_cons, hu_pa, List.lookup_cons, beq_self_eq_true], q u H (Same.refl _) ⟨as, h2, h3⟩⟩))
  | create p ls => obtain ⟨dx, u, h1, h2⟩ := h; exact .inr (.inr (.inl (ev _ ⟨a, _, _, rfl, e0, no _ co1 co2 co3, a, dx, _, _, rfl, h1, by rw [List.lookup_cons, li_pa, List.lookup_cons, beq_self_eq_true], q u H (Same.refl _) h2⟩)))
  | remove p ls => obtain ⟨dx, u, h1, h2⟩ := h; exact .inr (.inr (.inr (ev _ ⟨a, _, _, rfl, e0, no _ co1 co2 co3, a, dx, _, _, rfl, h1, by rw [List.lookup_cons, li_pa, List.lookup_cons, beq_self_eq_true], q u H (Same.refl _) h2⟩)))
theorem chcl (T : Txt P K mg ad) (o : Ch) : OCls K (o.cls ad) := by
  cases o
  · exact T.cl_Change
  · exact T.cl_Edit
  · exact T.cl_Create
  · exact T.cl_Remove
theorem chsub (T : Txt P K mg ad) (o : Ch) : PySem.W.subIn K (.ref (o.cls ad)) (.ref ad.c_Change) = some true := by
  cases o
  · exact T.su_Change
  · exact T.su_Edit
  · exact T.su_Create
  · exact T.su_Remove
theorem chcon (T : Txt P K mg ad) (o : Ch) : ∃ u, Con K (o.cls ad) "KIND" (.str o.kind) u := by
  cases o
  · exact T.co_Change_KIND
  · exact T.co_Edit_KIND
  · exact T.co_Create_KIND
  · exact T.co_Remove_KIND
theorem chpa (T : Txt P K mg ad) (o : Ch) : NoAttr K (o.cls ad) "path" := by
  cases o
  · exact T.na_Change_path
  · exact T.na_Edit_path
  · exact T.na_Create_path
  · exact T.na_Remove_path
def RCh (K : PySem.W.Frag) (ad : Ad) : EqvB := fun x y H b => ∃ a o c p, x = .ref a ∧ y = .ref c ∧ ChAt K ad H a o ∧ ChAt K ad H c p ∧ b = decide (o = p)
theorem monRCh (K : PySem.W.Frag) (ad : Ad) : MonB (RCh K ad) := fun x y H H' b e ⟨a, o, c, p, h1, h2, h3, h4, h5⟩ => ⟨a, o, c, p, h1, h2, h3.same e, h4.same e, h5⟩
theorem ki1 : ("KIND" : Str) ≠ "path" := by decide +kernel
theorem ki2 : ("KIND" : Str) ≠ "hunks" := by decide +kernel
theorem ki3 : ("KIND" : Str) ≠ "lines" := by decide +kernel
theorem ok_Change_XeqX (T : Txt P K mg ad) : FnOk P w K mg base CX0 6 ad.a_Change_XeqX ad.d_Change_XeqX ["self", "other"] (spEqB (RCh K ad)) := by
  refine T.f_Change_XeqX.ok sc_Change_XeqX (fun vs H Q E h => ?_) (fun cdv A outer s H vs Q E hr h => ?_)
  · obtain ⟨x, y, b, rfl, _⟩ := h; rfl
  · obtain ⟨x, y, b, rfl, ⟨a, o, c, p, rfl, rfl, ho, hp, rfl⟩, q⟩ := h
    refine ⟨_, pss_cons (cs_if (PW.pt (cw_or (pt_not (ct_val (pe_callB (cc_isi (K := K)) (by rfl) T.n_isinstance (by decide +kernel) (pa_cons (cv 1) (pa_cons (pe_glob (v := .ref ad.c_Change) rfl T.mg_Change rfl) pa_nil))))) (pw_or1 (ct_cmp (oc_ne (K := K) hr.units) (ce_con (K := K) (cv 0) rfl) (ce_con (K := K) (cv 1) rfl) (nomark _)))))
        (pss_one (ps_ret pe_bl))
        pss_nil)
      (pss_one (ps_ret (ce_and (pe_cmpR (OpR.or (oc_eq (K := K) hr.units) (op_cmpB (ne := false) (rcB_hksK (K := K) (ok_Hunk_XeqX T) T.fn_Hunk_XeqX T.b_Hunk_XeqX) (hr.mono (by decide)))) (ce_fld (K := K) (cv 0) rfl) (ce_fld (K := K) (cv 1) rfl) (nomark _)) (pe_one (pe_cmpR (OpR.or (oc_eq (K := K) hr.units) (op_cmpB (ne := false) (rcB_hksK (K := K) (ok_Hunk_XeqX T) T.fn_Hunk_XeqX T.b_Hunk_XeqX) (hr.mono (by decide)))) (PE.or (pe_meth0 (cv 0) T.cl_Change.cl T.me_Change_content (ok_Change_content T) (hr.mono (by decide)) T.b_Change_content .nil pass0) (PE.or (pe_meth0 (cv 0) T.cl_Edit.cl T.me_Edit_content (ok_Edit_content T) (hr.mono (by decide)) T.b_Edit_content .nil pass0) (PE.or (pe_meth0 (cv 0) T.cl_Create.cl T.me_Create_content (ok_Create_content T) (hr.mono (by decide)) T.b_Create_content .nil pass0) (pe_meth0 (cv 0) T.cl_Remove.cl T.me_Remove_content (ok_Remove_content T) (hr.mono (by decide)) T.b_Remove_content .nil pass0)))) (PE.or (pe_meth0 (cv 1) T.cl_Change.cl T.me_Change_content (ok_Change_content T) (hr.mono (by decide)) T.b_Change_content .nil pass0) (PE.or (pe_meth0 (cv 1) T.cl_Edit.cl T.me_Edit_content (ok_Edit_content T) (hr.mono (by decide)) T.b_Edit_content .nil pass0) (PE.or (pe_meth0 (cv 1) T.cl_Create.cl T.me_Create_content (ok_Create_content T) (hr.mono (by decide)) T.b_Create_content .nil pass0) (pe_meth0 (cv 1) T.cl_Remove.cl T.me_Remove_content (ok_Remove_content T) (hr.mono (by decide)) T.b_Remove_content .nil pass0)))) (nomark _)))))), ?_⟩
    obtain ⟨dx, fs, ha, l1, n1⟩ := ho.ins
    obtain ⟨dy, gs, hc, l2, n2⟩ := hp.ins
    tm_at "w"
    refine ⟨_, true, (chcl T p).ins hc, T.cl_Change.kit (chsub T p) (fun _ => rfl), fun h => (nomatch h), fun _ => ?_⟩
    obtain ⟨u, hu⟩ := chcon T o
    obtain ⟨u', hu'⟩ := chcon T p
    refine ⟨_, dx, _, _, _, ha, (chcl T o).cl, hu, n1 _ ki1 ki2 ki3, ?_⟩
    refine ⟨_, dy, _, _, _, hc, (chcl T p).cl, hu', n2 _ ki1 ki2 ki3, ?_⟩
    refine ⟨fun h => ?_, fun h => ?_⟩
    · have h : (!decide (o.kind = p.kind)) = true := h
      have h : o.kind ≠ p.kind := by simpa using h
      have := q H (fun _ _ z => z)
      rw [decide_eq_false (fun z => h (by rw [z]))] at this
      exact this
    · have h : (!decide (o.kind = p.kind)) = false := h
      have h : o.kind = p.kind := by simpa using h
      refine ⟨_, dx, _, _, ha, (chcl T o).cl, chpa T o, l1, ?_⟩
      refine ⟨_, dy, _, _, hc, (chcl T p).cl, chpa T p, l2, ?_⟩
      refine .inl ⟨fun g => ?_, fun g => ?_⟩
      · have g : o.path = p.path := of_decide_eq_true g
        refine cont_ask (ad := ad) (i := 0) rfl ho fun u1 H1 s1 c1 => ?_
        refine cont_ask (ad := ad) (i := 1) rfl (hp.same s1) fun u2 H2 s2 c2 => ?_
        replace c1 := c1.same s2
        have fin : ∀ (b : Bool) H', Same H2 H' → b = decide (o = p) → Q (.bl b) H' := fun b H' e z => z ▸ q H' ((s1.trans s2).trans e)
        clear q ha hc l1 l2 n1 n2 hu hu'
        cases o with
        | base x => cases p with
          | base y => exact .inl (.inl (rEq_strs (xs := []) (ys := []) (.inr ⟨SqT.of c1, SqT.of c2⟩) (fin _ _ (Same.refl _) (by have : x = y := g; rw [this]; simp))))
          | _ => simp only [Ch.kind] at h; exact absurd h (by decide +kernel)
        | edit x hs => cases p with
          | edit y gs =>
            obtain ⟨as, k1, k2⟩ := c1
            obtain ⟨bs, k3, k4⟩ := c2
            refine .inr ⟨_, dHks T k1 k3 k2 k4, fun H' e => ?_⟩
            rw [bne_f]
            exact fin _ _ e (by have : x = y := g; by_cases z : hs = gs <;> simp [this, z])
          | _ => simp only [Ch.kind] at h; exact absurd h (by decide +kernel)
        | create x ls => cases p with
          | create y ms => exact .inl (.inl (rEq_strs (.inr ⟨SqT.of c1, SqT.of c2⟩) (fin _ _ (Same.refl _) (by have : x = y := g; by_cases z : ls = ms <;> simp [this, z]))))
          | _ => simp only [Ch.kind] at h; exact absurd h (by decide +kernel)
        | remove x ls => cases p with
          | remove y ms => exact .inl (.inl (rEq_strs (.inr ⟨SqT.of c1, SqT.of c2⟩) (fin _ _ (Same.refl _) (by have : x = y := g; by_cases z : ls = ms <;> simp [this, z]))))
          | _ => simp only [Ch.kind] at h; exact absurd h (by decide +kernel)
      · have g : o.path ≠ p.path := of_decide_eq_false g
        have := q H (fun _ _ z => z)
        rw [decide_eq_false (fun z => g (by rw [z]))] at this
        exact this
theorem ownCh (T : Txt P K mg ad) (o : Ch) : OwnE K (o.cls ad) ad.a_Change_XeqX := by
  cases o
  · exact ⟨T.me_Change_XeqX.at_, T.ne_Change, T.cl_Change.hm⟩
  · exact ⟨T.me_Edit_XeqX.at_, T.ne_Edit, T.cl_Edit.hm⟩
  · exact ⟨T.me_Create_XeqX.at_, T.ne_Create, T.cl_Create.hm⟩
  · exact ⟨T.me_Remove_XeqX.at_, T.ne_Remove, T.cl_Remove.hm⟩
/-- == of two changes -/
theorem dCh (T : Txt P K mg ad) {H : Hp} {a c : Addr} {o p : Ch} (h : ChAt K ad H a o) (g : ChAt K ad H c p) : DOw K ad.a_Change_XeqX (RCh K ad) (.ref a) (.ref c) H (decide (o = p)) := by
  obtain ⟨dx, fs, ha, _⟩ := h.ins
  obtain ⟨dy, gs, hc, _⟩ := g.ins
  have rl : RCh K ad (.ref a) (.ref c) H (decide (o = p)) := ⟨a, o, c, p, rfl, rfl, h, g, rfl⟩
  have rr : RCh K ad (.ref c) (.ref a) H (decide (o = p)) := ⟨c, p, a, o, rfl, rfl, g, h, by
    by_cases e : o = p
    · rw [decide_eq_true e, decide_eq_true e.symm]
    · rw [decide_eq_false e, decide_eq_false (Ne.symm e)]⟩
  refine ⟨a, _, dx, _, rfl, ha, ?_⟩
  have left : ∀ (nf : PySem.W.notFirst K (o.cls ad) (.ref (p.cls ad)) = true), (∃ t, TyY H (.ref c) t ∧ OwnE K (o.cls ad) ad.a_Change_XeqX ∧ PySem.W.notFirst K (o.cls ad) t = true ∧ RCh K ad (.ref a) (.ref c) H (decide (o = p))) := fun nf => ⟨_, .ins hc, ownCh T o, nf, rl⟩
  have right : ∀ (ne : p.cls ad ≠ o.cls ad) (mr : PySem.W.mroIn K (p.cls ad) (.ref (o.cls ad)) = some true), (∃ c' D dy gs, V.ref c = .ref c' ∧ H c' = some (.ins D dy gs) ∧ D ≠ o.cls ad ∧ PySem.W.mroIn K D (.ref (o.cls ad)) = some true ∧ OwnE K D ad.a_Change_XeqX ∧ RCh K ad (.ref c) (.ref a) H (decide (o = p))) :=
    fun ne mr => ⟨c, _, dy, _, rfl, hc, ne, mr, ownCh T p, rr⟩
  cases o with
  | base =>
    cases p with
    | base => exact .inl (left T.nf_Change_Change)
    | edit => exact .inr (right T.nq_Edit T.mr2_Edit)
    | create => exact .inr (right T.nq_Create T.mr2_Create)
    | remove => exact .inr (right T.nq_Remove T.mr2_Remove)
  | edit =>
    cases p with
    | base => exact .inl (left T.nf_Edit_Change)
    | edit => exact .inl (left T.nf_Edit_Edit)
    | create => exact .inl (left T.nf_Edit_Create)
    | remove => exact .inl (left T.nf_Edit_Remove)
  | create =>
    cases p with
    | base => exact .inl (left T.nf_Create_Change)
    | edit => exact .inl (left T.nf_Create_Edit)
    | create => exact .inl (left T.nf_Create_Create)
    | remove => exact .inl (left T.nf_Create_Remove)
  | remove =>
    cases p with
    | base => exact .inl (left T.nf_Remove_Change)
    | edit => exact .inl (left T.nf_Remove_Edit)
    | create => exact .inl (left T.nf_Remove_Create)
    | remove => exact .inl (left T.nf_Remove_Remove)
end
end Toy

namespace Toy
open PySem L2
local macro_rules | `(tactic| tm_at "w") => `(tactic| (conv => whnf))
local macro_rules | `(tactic| tm_at "fr") => `(tactic| first | assumption | exact upd_none (by assumption) | exact upd_none (upd_none (by assumption)) | exact upd_none (upd_none (upd_none (by assumption))) | exact upd_none (upd_none (upd_none (upd_none (by assumption)))))
local macro_rules | `(tactic| tm_at "ne") => `(tactic| first | assumption | (apply Ne.symm; assumption) | exact upd_none_ne (by assumption) | exact (upd_none_ne (by assumption)).symm | exact upd_none_ne (upd_none (by assumption)) | exact (upd_none_ne (upd_none (by assumption))).symm | exact upd_none_ne (upd_none (upd_none (by assumption))) | exact (upd_none_ne (upd_none (upd_none (by assumption)))).symm)
local macro_rules | `(tactic| tm_at "heap") => `(tactic| first | assumption | exact upd_same | (refine upd_new ?_ (by tm_at "fr"); tm_at "heap") | (refine upd_oth (by tm_at "ne") ?_; tm_at "heap") | (refine SameB.get (by assumption) (by tm_at "ne") ?_; tm_at "heap") | (refine Same.get (by assumption) ?_; tm_at "heap"))
local macro_rules | `(tactic| tm_at "sq") => `(tactic| first | assumption | exact SqL.of (by tm_at "heap") | exact SqT.of (by tm_at "heap"))
local macro_rules | `(tactic| tm_at "ix") => `(tactic| (conv => whnf); first | refine ⟨_, _, .inl (by tm_at "sq"), rfl, ?_⟩ | refine ⟨_, _, .inr (by tm_at "sq"), rfl, ?_⟩)
local macro_rules | `(tactic| tm_at "sb") => `(tactic| first | assumption | exact SameB.refl | (refine SameB.ws ?_; tm_at "sb") | (refine SameB.wr ?_ (by tm_at "fr"); tm_at "sb") | (refine SameB.trans ?_ (by assumption); tm_at "sb"))
/-! patches -/
theorem ch_path {o : Ch} {p : Str} {v w : V} {C D d e : Addr} {fs gs : List (Str × V)} (h : some (HO.ins C d fs) = some (HO.ins D e gs)) : C = D ∧ fs = gs := by
  injection h with h
  injection h with h1 h2 h3
  exact ⟨h1, h3⟩
def ChsAt (K : PySem.W.Frag) (ad : Ad) (H : Hp) (as : List Addr) (cs : List Ch) : Prop := Paired (fun a c => ChAt K ad H a c) as cs
theorem ChsAt.same {K : PySem.W.Frag} {ad : Ad} {H H' : Hp} {as : List Addr} {cs : List Ch} (x : ChsAt K ad H as cs) (e : Same H H') : ChsAt K ad H' as cs := prd_mono (fun _ _ h => ChAt.same h e) x
/-- only what is neither a change nor a part of one is written -/
theorem ChAt.sameO {K : PySem.W.Frag} {ad : Ad} {H H' : Hp} {a x : Addr} {c : Ch} {o : HO} (hx : H x = some o) (ni : ∀ C d f fs, o ≠ .ins C d (f :: fs)) (nt : ∀ xs, o ≠ .tup xs) (s : SameB x H H') (g : ChAt K ad H a c) : ChAt K ad H' a c := by
  have ki : ∀ {b C d f fs}, H b = some (.ins C d (f :: fs)) → H' b = some (.ins C d (f :: fs)) := fun {b C d f fs} h => s.get (fun z => by subst z; rw [hx] at h; exact ni _ _ _ _ (Option.some.inj h)) h
  have kt : ∀ {b xs}, H b = some (.tup xs) → H' b = some (.tup xs) := fun {b xs} h => s.get (fun z => by subst z; rw [hx] at h; exact nt _ (Option.some.inj h)) h
  cases c with
  | base p => obtain ⟨dx, h⟩ := g; exact ⟨dx, ki h⟩
  | edit p hs =>
    obtain ⟨dx, q, as, h1, h2, h3⟩ := g
    refine ⟨dx, q, as, ki h1, kt h2, prd_mono (fun _ _ h => ?_) h3⟩
    obtain ⟨dy, b, c, e1, e2, e3⟩ := h
    exact ⟨dy, b, c, ki e1, kt e2, kt e3⟩
  | create p ls => obtain ⟨dx, q, h1, h2⟩ := g; exact ⟨dx, q, ki h1, kt h2⟩
  | remove p ls => obtain ⟨dx, q, h1, h2⟩ := g; exact ⟨dx, q, ki h1, kt h2⟩
theorem ChsAt.sameO {K : PySem.W.Frag} {ad : Ad} {H H' : Hp} {as : List Addr} {x : Addr} {cs : List Ch} {o : HO} (hx : H x = some o) (ni : ∀ C d f fs, o ≠ .ins C d (f :: fs)) (nt : ∀ xs, o ≠ .tup xs) (s : SameB x H H') (g : ChsAt K ad H as cs) : ChsAt K ad H' as cs := prd_mono (fun _ _ h => ChAt.sameO hx ni nt s h) g
theorem ChAt.sameL {K : PySem.W.Frag} {ad : Ad} {H H' : Hp} {a x : Addr} {c : Ch} {xs : List V} (g : ChAt K ad H a c) (hx : H x = some (.lst xs)) (s : SameB x H H') : ChAt K ad H' a c := ChAt.sameO hx (fun _ _ _ _ z => nomatch z) (fun _ z => nomatch z) s g
theorem hks_uniq {K : PySem.W.Frag} {ad : Ad} {H : Hp} : ∀ {as : List Addr} {hs gs : List Hk}, HksAt K ad H as hs → HksAt K ad H as gs → hs = gs
  | [], [], [], .nil, .nil => rfl
  | _ :: _, _ :: _, _ :: _, .cons x xs, .cons y ys => by rw [HkAt.uniq x y, hks_uniq xs ys]
theorem refs_inj {as bs : List Addr} (h : as.map V.ref = bs.map V.ref) : as = bs := by
  induction as generalizing bs with
  | nil => cases bs with
    | nil => rfl
    | cons y ys => cases h
  | cons x xs ih => cases bs with
    | nil => cases h
    | cons y ys =>
      rw [List.map_cons, List.map_cons] at h
      injection h with h1 h2
      injection h1 with h1
      rw [h1, ih h2]
structure Pt where
  name : Str
  chs : List Ch
  deriving DecidableEq
def PtAt (K : PySem.W.Frag) (ad : Ad) (H : Hp) (a : Addr) (p : Pt) : Prop := ∃ dx dd q as, H a = some (.ins ad.c_Patch dx [("name", .str p.name), ("by_path", .ref dd), ("changes", .ref q)]) ∧ H q = some (.tup (as.map V.ref)) ∧ ChsAt K ad H as p.chs
theorem PtAt.same {K : PySem.W.Frag} {ad : Ad} {H H' : Hp} {a : Addr} {p : Pt} (x : PtAt K ad H a p) (e : Same H H') : PtAt K ad H' a p := by
  obtain ⟨dx, dd, q, as, h1, h2, h3⟩ := x
  exact ⟨dx, dd, q, as, e _ _ h1, e _ _ h2, h3.same e⟩
def NameOk (n : Str) : Prop := wordB n 12 = true ∧ n.length ≤ 100
def Gt (f : Str) : List V → List (Str × V) → Prop := fun ws fs => ∃ t : Str, ws = [.str t] ∧ t.length ≤ 1000 ∧ fs = ([(f, V.str t)] : List (Str × V))
/-- Patch's __init__, the changes in a tuple -/
def spPat (K : PySem.W.Frag) (ad : Ad) : Sp := fun vs H Q E => ∃ (x dx t : Addr) (n : Str) (as : List Addr) (cs : List Ch), vs = [.ref x, .str n, .ref t] ∧ H x = some (.ins ad.c_Patch dx []) ∧ H t = some (.tup (as.map V.ref)) ∧ ChsAt K ad H as cs ∧ NameOk n ∧ cs.length < 60 ∧ (∀ c ∈ cs, c.path.length ≤ 100) ∧
  (∀ p, dupP [] (cs.map Ch.path) = some p → ∀ H' d, SameB x H H' → H d = none → H' d = some (.xd [("path", .str p)]) → E (.ref ad.c_BadPatch) (some d) H') ∧
  (dupP [] (cs.map Ch.path) = none → ∀ H' cs', SameB x H H' → cs'.Perm cs → PyProof.Rows.sortedS (cs'.map Ch.path) = true → PtAt K ad H' x ⟨n, cs'⟩ → Q .non H')
/-- a patch made of the changes cs, as a call gives it -/
def spMade (K : PySem.W.Frag) (ad : Ad) (n : Str) (as : List Addr) (cs : List Ch) : Hp → VK → XK → Prop := fun H Q E => ChsAt K ad H as cs ∧ NameOk n ∧ cs.length < 60 ∧ (∀ c ∈ cs, c.path.length ≤ 100) ∧
  (∀ p, dupP [] (cs.map Ch.path) = some p → ∀ H' d, Same H H' → H d = none → H' d = some (.xd [("path", .str p)]) → E (.ref ad.c_BadPatch) (some d) H') ∧
  (dupP [] (cs.map Ch.path) = none → ∀ x H' cs', Same H H' → cs'.Perm cs → PyProof.Rows.sortedS (cs'.map Ch.path) = true → PtAt K ad H' x ⟨n, cs'⟩ → Q (.ref x) H')
/-- Patch.of(name, changes) -/
def spOf (K : PySem.W.Frag) (ad : Ad) : Sp := fun vs H Q E => ∃ (n : Str) (t : Addr) (as : List Addr) (cs : List Ch), vs = [.ref ad.c_Patch, .str n, .ref t] ∧ H t = some (.tup (as.map V.ref)) ∧ spMade K ad n as cs H Q E
def spRen (K : PySem.W.Frag) (ad : Ad) : Sp := fun vs H Q E => ∃ (a : Addr) (m : Str) (p : Pt), vs = [.ref a, .str m] ∧ PtAt K ad H a p ∧ NameOk m ∧ p.chs.length < 60 ∧ (∀ c ∈ p.chs, c.path.length ≤ 100) ∧ (p.chs.map Ch.path).Nodup ∧
  ∀ x H' cs', Same H H' → cs'.Perm p.chs → PyProof.Rows.sortedS (cs'.map Ch.path) = true → PtAt K ad H' x ⟨m, cs'⟩ → Q (.ref x) H'
theorem na_by : ¬ (("name" : Str) = "by_path") := by decide +kernel
theorem na_ch : ¬ (("name" : Str) = "changes") := by decide +kernel
theorem by_ch : ¬ (("by_path" : Str) = "changes") := by decide +kernel
section
variable {P : Program} {w : World} {K : PySem.W.Frag} {mg : Str → Option Value} {base : Heap} {ad : Ad}
theorem ok_BadName_XinitX (T : Txt P K mg ad) : FnOk P w K mg base CX0 1 ad.a_BadName_XinitX ad.d_BadName_XinitX ["self", "name"] (spIx ad.c_BadName (Gt "name")) := by
  refine T.f_BadName_XinitX.ok sc_BadName_XinitX (fun vs H Q E h => ?_) (fun cdv A outer s H vs Q E hr h => ?_)
  · obtain ⟨a, x, fs, rfl, _, ⟨n, rfl, _⟩, _⟩ := h; rfl
  · obtain ⟨a, x, fs, rfl, _, ⟨n, rfl, hn, rfl⟩, ha, q⟩ := h
    refine ⟨_, pss_cons (ps_expr (pe_coinit rfl T.mg_SourceError T.bi_SourceError (pa_cons (cv 0) (pa_cons (pe_joined (.cons pe_str (.cons (pe_fmt (cv 1)) .nil))) pa_nil))))
      (pss_one (ps_ost (cv 0) (cv 1) rfl)), ?_⟩
    tm_at "w"
    refine ⟨_, rfl, by rw [sizeLine_eq]; simp only [str_len_app]; show 0 + 13 ≤ _; omega, ?_⟩
    refine .inl ⟨n, rfl, by rw [sizeLine_eq]; omega, ?_⟩
    refine ⟨_, rfl, by rw [sizeLine_eq]; simp only [str_len_app]; show 0 + 13 + n.length ≤ _; omega, ?_⟩
    refine ⟨a, _, [_], rfl, by show 1 ≤ 1000; decide, T.ox_BadName.oex, ha, ?_⟩
    refine ⟨a, _, rfl, T.ox_BadName.oex, T.na_BadName_name, .inl ⟨ha, fun d hd hn => ?_⟩⟩
    exact q _ d (SameB.ws (SameB.new hd)) hd hn upd_same (upd_oth hn upd_same)
theorem ok_BadPatch_XinitX (T : Txt P K mg ad) : FnOk P w K mg base CX0 1 ad.a_BadPatch_XinitX ad.d_BadPatch_XinitX ["self", "path"] (spIx ad.c_BadPatch (Gt "path")) := by
  refine T.f_BadPatch_XinitX.ok sc_BadPatch_XinitX (fun vs H Q E h => ?_) (fun cdv A outer s H vs Q E hr h => ?_)
  · obtain ⟨a, x, fs, rfl, _, ⟨n, rfl, _⟩, _⟩ := h; rfl
  · obtain ⟨a, x, fs, rfl, _, ⟨n, rfl, hn, rfl⟩, ha, q⟩ := h
    refine ⟨_, pss_cons (ps_expr (pe_coinit rfl T.mg_SourceError T.bi_SourceError (pa_cons (cv 0) (pa_cons (pe_joined (.cons pe_str (.cons (pe_fmt (cv 1)) .nil))) pa_nil))))
      (pss_one (ps_ost (cv 0) (cv 1) rfl)), ?_⟩
    tm_at "w"
    refine ⟨_, rfl, by rw [sizeLine_eq]; simp only [str_len_app]; show 0 + 26 ≤ _; omega, ?_⟩
    refine .inl ⟨n, rfl, by rw [sizeLine_eq]; omega, ?_⟩
    refine ⟨_, rfl, by rw [sizeLine_eq]; simp only [str_len_app]; show 0 + 26 + n.length ≤ _; omega, ?_⟩
    refine ⟨a, _, [_], rfl, by show 1 ≤ 1000; decide, T.ox_BadPatch.oex, ha, ?_⟩
    refine ⟨a, _, rfl, T.ox_BadPatch.oex, T.na_BadPatch_path, .inl ⟨ha, fun d hd hn => ?_⟩⟩
    exact q _ d (SameB.ws (SameB.new hd)) hd hn upd_same (upd_oth hn upd_same)
theorem ok_is_name (T : Txt P K mg ad) : FnOk P w K mg base CX0 2 ad.a_is_name ad.d_is_name ["text"] (fun vs H Q _ => ∃ t : Str, vs = [.str t] ∧ t.length ≤ 10 ^ 5 ∧ ∀ H', Same H H' → Q (.bl (wordB t 12)) H') := by
  refine T.f_is_name.ok sc_is_name (fun vs H Q E h => ?_) (fun cdv A outer s H vs Q E hr h => ?_)
  · obtain ⟨t, rfl, _⟩ := h; rfl
  · obtain ⟨t, rfl, hl, q⟩ := h
    exact ⟨_, pss_one (ps_ret (pe_call (ok_is_word T) (hr.mono (by decide)) rfl T.m_is_word T.k_is_word T.b_is_word .nil pass0 (pa_cons (cv 0) (pa_cons (pe_globE rfl T.g_MOST_LETTERS) pa_nil)))), t, 12, rfl, by omega, q⟩
set_option maxHeartbeats 8000000 in
theorem ok_Patch_XinitX (T : Txt P K mg ad) : FnR P w K mg base (L2.CX P w) 8 ad.a_Patch_XinitX (spStar 2 (spPat K ad)) := by
  refine T.f_Patch_XinitX.okStar T.b_Patch_XinitX sc_Patch_XinitX (fun cdv A outer s H vs Q E hr h => ?_)
  obtain ⟨x, dx, t, n, as, cs, rfl, hx, ht, hcs, ⟨hn1, hn2⟩, hl, hpl, e, q⟩ := h
  refine ⟨_, pss_cons (cs_if (pt_not (ct_val (pe_call (ok_is_name T) (hr.mono (by decide)) rfl T.m_is_name T.k_is_name T.b_is_name .nil pass0 (pa_cons (cv 1) pa_nil))))
        (pss_one (ps_raiseX rfl (takes_of rfl rfl rfl rfl) T.ox_BadName (ok_BadName_XinitX T) (hr.mono (by decide)) T.b_BadName_XinitX pass0 rfl T.mg_BadName (pa_cons (cv 1) pa_nil)))
        pss_nil)
      (pss_cons (ps_set (i := 3) sc_Patch_XinitX.nd rfl (by first | exact Or.inl rfl | exact Or.inr rfl) pe_dnewK)
      (pss_cons (ps_for (passes_of rfl) rfl (pic_seq (K := K) (cv 2)) (pg_name (i := 4) sc_Patch_XinitX.nd rfl (by first | exact Or.inl rfl | exact Or.inr rfl))
        (pss_cons (cs_if (ct_cmp (oc_din hr.units) (ce_fld (K := K) (cv 4) rfl) (cv 3) rfl)
          (pss_one (ps_raiseX rfl (takes_of rfl rfl rfl rfl) T.ox_BadPatch (ok_BadPatch_XinitX T) (hr.mono (by decide)) T.b_BadPatch_XinitX pass0 rfl T.mg_BadPatch (pa_cons (ce_fld (K := K) (cv 4) rfl) pa_nil)))
          pss_nil)
        (pss_one (ps_dput (hu_of hr) (cv 3) (ce_fld (K := K) (cv 4) rfl) (cv 4) rfl))))
      (pss_cons (cs_fld (K := K) (cv 0) (cv 1) rfl)
      (pss_cons (cs_fld (K := K) (cv 0) (cv 3) rfl)
      (pss_one (cs_fld (K := K) (cv 0) (pe_callTy (cc_tuple (K := K)) (by rfl) T.n_tuple (by decide +kernel) (pa_cons (pe_lc (own := [("path", 5)]) (g := gName 5) (by rfl) sc_Patch_XinitX.nd  (pic_seq (K := K) (pe_callB (call_sortedD rfl) (by rfl) T.n_sorted (by decide +kernel) (pa_cons (cv 3) pa_nil))) (blkOk_by (own := [("path", 5)]) (N := N_Patch_XinitX) (sc := defScope s_Patch_XinitX) (by decide +kernel)) (fun _ _ _ _ _ => pg_name (i := 5) sc_Patch_XinitX.nd rfl (by first | exact Or.inl rfl | exact Or.inr rfl)) (fun _ _ _ _ _ => pts_nil) (fun _ _ _ _ _ => pe_dget (hu_of hr) (cv 3) (cv 5) (fun _ _ => rfl))) pa_nil)) rfl)))))), ?_⟩
  refine ⟨n, rfl, by omega, fun H1 s1 => ?_⟩
  rw [hn1]
  refine .f ?_
  intro dd hdd
  have hlen : as.length = cs.length := prd_len hcs
  have hxd : x ≠ dd := ne_of_none (s1 _ _ hx) hdd
  have htd : t ≠ dd := ne_of_none (s1 _ _ ht) hdd
  refine .inr ⟨t, rfl, ⟨_, SqT.of (upd_new (s1 _ _ ht) hdd)⟩, ?_⟩
  have hd0 : H dd = none := s1.free hdd
  generalize hps : as.zip cs = ps at *
  have hf : ps.map (fun p => p.2.path) = cs.map Ch.path := by
    rw [← hps, show (fun p : Addr × Ch => p.2.path) = Ch.path ∘ Prod.snd from rfl, ← List.map_map, List.map_snd_zip (by omega)]
  have hlp : ps.length = cs.length := by rw [← hps, List.length_zip]; omega
  refine for_tup (K := K) (a := t) (xs := as.map V.ref) (fun i σ H' => ∃ u, σ = [some (.ref x), some (.str n), some (.ref t), some (.ref dd), u, none] ∧ ((cs.map Ch.path).take i).Nodup ∧ H' dd = some (.dK (kvOf (fun p => p.2.path) (fun p => .ref p.1) (ps.take i))) ∧ Same H H')
    ⟨_, rfl, by rw [List.take_zero]; exact List.nodup_nil, by rw [List.take_zero]; exact upd_same, s1.trans (Same.new hdd)⟩ ?_ ?_ ?_
  · rintro i σ H' _ ⟨u, _, _, _, s2⟩
    exact SqT.of (s2 _ _ ht)
  · rintro i y σ H2 hy ⟨u, rfl, nd, h2, s2⟩
    rw [List.getElem?_map] at hy
    obtain ⟨a, ea, rfl⟩ := Option.map_eq_some_iff.mp hy
    obtain ⟨c, ec, hc⟩ := prd_get (hcs.same s2) ea
    obtain ⟨dc, fs, ha, l1, _⟩ := hc.ins
    have ep : ps[i]? = some (a, c) := by rw [← hps]; exact zip_get ea ec
    have epp : (cs.map Ch.path)[i]? = some c.path := by rw [List.getElem?_map, ec]; rfl
    have hcl := hpl c (List.mem_of_getElem? ec)
    refine ⟨_, dc, _, _, ha, (chcl T c).cl, chpa T c, l1, ?_⟩
    refine ⟨_, h2, ?_⟩
    rw [bne_f, valV_kv_none, show ((ps.take i).map fun p : Addr × Ch => p.2.path) = (cs.map Ch.path).take i by rw [← hf, List.map_take]]
    refine ⟨fun hin => ?_, fun hin => ?_⟩
    · have hin : c.path ∈ (cs.map Ch.path).take i := of_decide_eq_true hin
      refine ⟨_, dc, _, _, ha, (chcl T c).cl, chpa T c, l1, ?_⟩
      refine ⟨_, by show 1 ≤ 1000; decide, ⟨c.path, rfl, by omega, rfl⟩, fun H3 d s3 hd hx3 => ?_⟩
      refine e c.path ?_ H3 d (SameB.of (s2.trans s3)) (s2.free hd) hx3
      rw [drop_at epp]
      exact dupP_hit (by rw [List.nil_append]; exact nd) (by rw [List.nil_append]; exact hin)
    · have hin : c.path ∉ (cs.map Ch.path).take i := of_decide_eq_false hin
      refine ⟨_, dc, _, _, ha, (chcl T c).cl, chpa T c, l1, ?_⟩
      refine ⟨_, _, rfl, DPut.k (k := Sum.inr c.path) h2 (by rw [sizeLine_eq]; unfold kvOf; rw [List.length_map, List.length_take]; omega), ?_⟩
      refine ⟨_, rfl, ?_, ?_, s2.wr hd0⟩
      · rw [take_snoc epp]; exact nodup_snoc nd hin
      · rw [upd_same, take_snoc ep]
        have := putK_kv (f := fun p : Addr × Ch => p.2.path) (v := fun p => V.ref p.1) (ps := ps.take i) (a := (a, c)) (by rw [List.map_take, hf]; exact hin)
        rw [← this]
  · rintro σ H2 ⟨u, rfl, nd, h2, s2⟩
    rw [List.length_map, hlen, ← hlp, List.take_length] at h2
    rw [List.length_map, hlen, List.take_of_length_le (by rw [List.length_map]; omega)] at nd
    have ndp : (ps.map fun p => p.2.path).Nodup := by rw [hf]; exact nd
    have hxd2 : x ≠ dd := fun z => by subst z; rw [s2 _ _ hx] at h2; cases h2
    refine ⟨_, dx, [], s2 _ _ hx, T.cl_Patch.cl, T.na_Patch_name, by show 0 < 1000; decide, ?_⟩
    refine ⟨_, dx, _, upd_same, T.cl_Patch.cl, T.na_Patch_by_path, by show 1 < 1000; decide, ?_⟩
    generalize hG : upd (upd H2 x _) x _ = G
    have b2 : SameB x H G := hG ▸ SameB.ws (SameB.ws (SameB.of s2))
    have gx : G x = some (.ins ad.c_Patch dx [("name", .str n), ("by_path", .ref dd)]) := by
      rw [← hG, upd_same]
      show some (HO.ins _ _ (putF ("by_path" : Str) (V.ref dd) [(("name" : Str), V.str n)])) = _
      rw [putF2 na_by]
    have gd : G dd = some (.dK (kvOf (fun p => p.2.path) (fun p => .ref p.1) ps)) := by
      rw [← hG]; exact upd_oth hxd2.symm (upd_oth hxd2.symm h2)
    clear hG
    refine .inl ⟨dd, _, cs.map Ch.path, rfl, .inl gd, by unfold kvOf; rw [List.map_map, ← hf, List.map_map]; rfl, by rw [List.length_map]; omega, fun ys p perm srt hp => ?_⟩
    refine ⟨p, rfl, ⟨_, SqL.of upd_same⟩, fun D hD => ?_⟩
    rw [← hf] at perm
    obtain ⟨ps', pp, pm⟩ := perm_lift perm ps rfl
    have hys : ys.length = ps'.length := by rw [← pm, List.length_map]
    have vv : ∀ q ∈ ps', valV (kvOf (fun p : Addr × Ch => p.2.path) (fun p => V.ref p.1) ps) (Sum.inr q.2.path) = some (.ref q.1) := fun q hq => valV_kv (f := fun p : Addr × Ch => p.2.path) ndp (pp.mem_iff.mp hq)
    refine lc_fun (walk_list (xs := ys.map V.str)) (fun i => (ps'.map fun q => V.ref q.1).getD i .non) hD (by rw [List.length_map, hys, pp.length_eq]; omega) (fun H3 s3 => SqL.of (s3 _ _ upd_same)) ?_ ?_
    · rintro i z H3 H4 Nx Nz hi s3 ⟨rfl, hz⟩ k
      rw [List.getElem?_map] at hz
      obtain ⟨y, ey, rfl⟩ := Option.map_eq_some_iff.mp hz
      rw [← pm, List.getElem?_map] at ey
      obtain ⟨q, eq, rfl⟩ := Option.map_eq_some_iff.mp ey
      refine ⟨rfl, ?_⟩
      refine ⟨dd, _, rfl, (vv q (List.mem_of_getElem? eq)) ▸ DGet.k (k := Sum.inr q.2.path) (s3 _ _ (upd_new gd hp)), ?_⟩
      have := k _ (Same.refl _)
      rw [List.getD_eq_getElem?_getD, List.getElem?_map, eq] at this
      exact this
    intro H3 s3 e3
    rw [List.length_map, hys] at e3
    have e3' : H3 D = some (.lst ((ps'.map Prod.fst).map V.ref)) := by
      have key : (ps'.map fun q => V.ref q.1) = (List.range ps'.length).map fun i => (ps'.map fun q => V.ref q.1).getD i .non := list_of (by rw [List.length_map]) fun i y hy => by
        rw [List.getD_eq_getElem?_getD, hy]; rfl
      rw [e3, ← key, List.map_map]; rfl
    refine ⟨_, .inl ⟨SqL.of e3', fun tq htq => ?_⟩⟩
    have s4 : Same G (upd H3 tq (.tup ((ps'.map Prod.fst).map V.ref))) := ((Same.new hp).trans s3).trans (Same.new htq)
    refine ⟨_, dx, _, s4 _ _ gx, T.cl_Patch.cl, T.na_Patch_changes, by show 2 < 1000; decide, ?_⟩
    have hxq : x ≠ tq := ne_of_none (((Same.new hp).trans s3) _ _ gx) htq
    have bb : SameB x H (upd (upd H3 tq (.tup ((ps'.map Prod.fst).map V.ref))) x (.ins ad.c_Patch dx (putF ("changes" : Str) (V.ref tq) [(("name" : Str), V.str n), ("by_path", V.ref dd)]))) := SameB.ws (b2.trans (SameB.of s4))
    have hch := ChsAt.sameO hx (fun _ _ _ _ z => nomatch z) (fun _ z => nomatch z) bb hcs
    refine q (by rw [dupP_none List.nodup_nil, List.nil_append]; exact nd) _ (ps'.map Prod.snd) bb ?_ ?_ ⟨dx, dd, tq, ps'.map Prod.fst, ?_, upd_oth hxq.symm upd_same, ?_⟩
    · have := pp.map Prod.snd
      rw [← hps, List.map_snd_zip (by omega)] at this
      exact this
    · rw [List.map_map, show (Ch.path ∘ Prod.snd : Addr × Ch → Str) = fun p => p.2.path from rfl, pm]; exact srt
    · rw [upd_same, putF3 na_ch by_ch]
    · refine prd_of fun r hr => ?_
      exact prd_zip hch r (by rw [hps]; exact pp.mem_iff.mp hr)
end
end Toy

namespace Toy
open PySem L2
local macro_rules | `(tactic| tm_at "w") => `(tactic| (conv => whnf))
local macro_rules | `(tactic| tm_at "fr") => `(tactic| first | assumption | exact upd_none (by assumption) | exact upd_none (upd_none (by assumption)) | exact upd_none (upd_none (upd_none (by assumption))) | exact upd_none (upd_none (upd_none (upd_none (by assumption)))))
local macro_rules | `(tactic| tm_at "ne") => `(tactic| first | assumption | (apply Ne.symm; assumption) | exact upd_none_ne (by assumption) | exact (upd_none_ne (by assumption)).symm | exact upd_none_ne (upd_none (by assumption)) | exact (upd_none_ne (upd_none (by assumption))).symm | exact upd_none_ne (upd_none (upd_none (by assumption))) | exact (upd_none_ne (upd_none (upd_none (by assumption)))).symm)
local macro_rules | `(tactic| tm_at "heap") => `(tactic| first | assumption | exact upd_same | (refine upd_new ?_ (by tm_at "fr"); tm_at "heap") | (refine upd_oth (by tm_at "ne") ?_; tm_at "heap") | (refine SameB.get (by assumption) (by tm_at "ne") ?_; tm_at "heap") | (refine Same.get (by assumption) ?_; tm_at "heap"))
local macro_rules | `(tactic| tm_at "sq") => `(tactic| first | assumption | exact SqL.of (by tm_at "heap") | exact SqT.of (by tm_at "heap"))
local macro_rules | `(tactic| tm_at "ix") => `(tactic| (conv => whnf); first | refine ⟨_, _, .inl (by tm_at "sq"), rfl, ?_⟩ | refine ⟨_, _, .inr (by tm_at "sq"), rfl, ?_⟩)
local macro_rules | `(tactic| tm_at "sb") => `(tactic| first | assumption | exact SameB.refl | (refine SameB.ws ?_; tm_at "sb") | (refine SameB.wr ?_ (by tm_at "fr"); tm_at "sb") | (refine SameB.trans ?_ (by assumption); tm_at "sb"))
/-! Patch.of, renamed, ==, len, size -/
theorem SameB.same_of_fresh {H H' : Hp} {x dx t : Addr} {o1 o2 o3 : HO} (hx : H x = none) (hd : H dx = none) (ht : H t = none) (e : SameB x (upd (upd (upd H dx o1) x o2) t o3) H') : Same H H' := fun b o h =>
  e b o (ne_of_none h hx) (by rw [upd_ne (ne_of_none h ht), upd_ne (ne_of_none h hx), upd_ne (ne_of_none h hd)]; exact h)
def Ch.size : Ch → Int
  | .edit _ hs => hs.length
  | _ => 1
def spSize (K : PySem.W.Frag) (ad : Ad) : Sp := fun vs H Q _ => ∃ a p, vs = [.ref a] ∧ PtAt K ad H a p ∧ p.chs.length < 60 ∧ ∀ H', Same H H' → Q (.int (p.chs.map Ch.size).sum) H'
def spLenP (K : PySem.W.Frag) (ad : Ad) : Sp := fun vs H Q _ => ∃ a p, vs = [.ref a] ∧ PtAt K ad H a p ∧ Q (.int p.chs.length) H
theorem ChAt.uniq {P : Program} {K : PySem.W.Frag} {mg : Str → Option Value} {ad : Ad} (T : Txt P K mg ad) {H : Hp} {a : Addr} {o p : Ch} (x : ChAt K ad H a o) (y : ChAt K ad H a p) : o = p := by
  have ins : ∀ {C D d e : Addr} {fs gs : List (Str × V)}, H a = some (.ins C d fs) → H a = some (.ins D e gs) → C = D ∧ fs = gs := fun h g => by
    rw [h] at g
    injection g with g
    injection g with g1 g2 g3
    exact ⟨g1, g3⟩
  have two : ∀ {k : Str} {u v u' v' : V}, ([(("path" : Str), u), (k, v)] : List (Str × V)) = [(("path" : Str), u'), (k, v')] → u = u' ∧ v = v' := fun h => by
    injection h with h1 h2
    injection h1 with _ h1
    injection h2 with h2 _
    injection h2 with _ h2
    exact ⟨h1, h2⟩
  have tup : ∀ {b : Addr} {xs ys : List V}, H b = some (.tup xs) → H b = some (.tup ys) → xs = ys := fun h g => by
    rw [h] at g
    injection g with g
    injection g
  cases o with
  | base p1 =>
    obtain ⟨d, h⟩ := x
    cases p with
    | base p2 =>
      obtain ⟨e, g⟩ := y
      have z := (ins h g).2
      injection z with z _
      injection z with _ z
      injection z with z
      rw [z]
    | edit p2 gs => obtain ⟨e, _, _, g, _⟩ := y; exact absurd (ins h g).1.symm T.nq_Edit
    | create p2 gs => obtain ⟨e, _, g, _⟩ := y; exact absurd (ins h g).1.symm T.nq_Create
    | remove p2 gs => obtain ⟨e, _, g, _⟩ := y; exact absurd (ins h g).1.symm T.nq_Remove
  | edit p1 hs =>
    obtain ⟨d, q, as, h, hq, hh⟩ := x
    cases p with
    | base p2 => obtain ⟨e, g⟩ := y; exact absurd (ins h g).1 T.nq_Edit
    | edit p2 gs =>
      obtain ⟨e, q2, bs, g, gq, gg⟩ := y
      obtain ⟨z1, z2⟩ := two (ins h g).2
      injection z1 with z1
      injection z2 with z2
      subst z2
      have := refs_inj (tup hq gq)
      subst this
      rw [z1, hks_uniq hh gg]
    | create p2 gs => obtain ⟨e, _, g, _⟩ := y; exact absurd (ins h g).1.symm T.nqe_Create
    | remove p2 gs => obtain ⟨e, _, g, _⟩ := y; exact absurd (ins h g).1.symm T.nqe_Remove
  | create p1 ls =>
    obtain ⟨d, q, h, hq⟩ := x
    cases p with
    | base p2 => obtain ⟨e, g⟩ := y; exact absurd (ins h g).1 T.nq_Create
    | edit p2 gs => obtain ⟨e, _, _, g, _⟩ := y; exact absurd (ins h g).1 T.nqe_Create
    | create p2 ms =>
      obtain ⟨e, q2, g, gq⟩ := y
      obtain ⟨z1, z2⟩ := two (ins h g).2
      injection z1 with z1
      injection z2 with z2
      subst z2
      rw [z1, strs_inj (tup hq gq)]
    | remove p2 gs => obtain ⟨e, _, g, _⟩ := y; exact absurd (ins h g).1 T.nqCR
  | remove p1 ls =>
    obtain ⟨d, q, h, hq⟩ := x
    cases p with
    | base p2 => obtain ⟨e, g⟩ := y; exact absurd (ins h g).1 T.nq_Remove
    | edit p2 gs => obtain ⟨e, _, _, g, _⟩ := y; exact absurd (ins h g).1 T.nqe_Remove
    | create p2 ms => obtain ⟨e, _, g, _⟩ := y; exact absurd (ins h g).1.symm T.nqCR
    | remove p2 ms =>
      obtain ⟨e, q2, g, gq⟩ := y
      obtain ⟨z1, z2⟩ := two (ins h g).2
      injection z1 with z1
      injection z2 with z2
      subst z2
      rw [z1, strs_inj (tup hq gq)]
/-- changes as items of tuples -/
def DCr (K : PySem.W.Frag) (ad : Ad) : EqvB := fun x y H b => DOw K ad.a_Change_XeqX (RCh K ad) x y H b ∧ ∃ a c, x = .ref a ∧ y = .ref c ∧ (a = c → b = true)
theorem monDCr (K : PySem.W.Frag) (ad : Ad) : MonB (DCr K ad) := fun x y H H' b e ⟨h1, h2⟩ => ⟨monB_own (monRCh K ad) x y H H' b e h1, h2⟩
section
variable {X : Cx} {n : Nat} {ne : Bool}
theorem eqB_chs {ad : Ad} {fd : FuncData} {ps : List Str} (F : FnOk X.prog X.w X.K X.mg X.base CX0 n ad.a_Change_XeqX fd ps (spEqB (RCh X.K ad))) (hf : PySem.W.isFn X.K (.ref ad.a_Change_XeqX) = true) (hb : Binds X.K fd ps []) : EqB X (n + 1) (DCr X.K ad) :=
  RcB.eqB (RcB.imp (rcB_own F hf hb pass0) fun _ _ _ _ h => h.1) fun _ _ _ _ h => h.2
theorem rcB_chsK {K : PySem.W.Frag} {ad : Ad} {fd : FuncData} {ps : List Str} (F : FnOk X.prog X.w X.K X.mg X.base CX0 n ad.a_Change_XeqX fd ps (spEqB (RCh K ad))) (hf : PySem.W.isFn X.K (.ref ad.a_Change_XeqX) = true) (hb : Binds X.K fd ps []) (hK : X.K = K := by rfl) : RcB X (n + 1 + 1) ne (DTp K (DCr K ad)) := by
  subst hK
  exact rcB_tup (monDCr X.K ad) (eqB_chs F hf hb)
end
/-- what == says of patches -/
def RPt (K : PySem.W.Frag) (ad : Ad) : EqvB := fun x y H b => ∃ a p, x = .ref a ∧ PtAt K ad H a p ∧ ((∃ c q, y = .ref c ∧ PtAt K ad H c q ∧ b = decide (p = q)) ∨ (∃ c xs, y = .ref c ∧ H c = some (.tup xs) ∧ b = false) ∨ ∃ t : Str, y = .str t ∧ b = false)
theorem monRPt (K : PySem.W.Frag) (ad : Ad) : MonB (RPt K ad) := fun x y H H' b e ⟨a, p, h1, h2, h3⟩ => ⟨a, p, h1, h2.same e, by
  rcases h3 with ⟨c, q, g1, g2, g3⟩ | ⟨c, xs, g1, g2, g3⟩ | g
  · exact .inl ⟨c, q, g1, g2.same e, g3⟩
  · exact .inr (.inl ⟨c, xs, g1, e _ _ g2, g3⟩)
  · exact .inr (.inr g)⟩
theorem lkp1 {x y z : V} : ([(("name" : Str), x), ("by_path", y), ("changes", z)] : List (Str × V)).lookup ("name" : Str) = some x := by rw [List.lookup_cons, beq_self_eq_true]
theorem lkp3 {x y z : V} : ([(("name" : Str), x), ("by_path", y), ("changes", z)] : List (Str × V)).lookup ("changes" : Str) = some z := by
  rw [List.lookup_cons, show (("changes" : Str) == "name") = false by decide +kernel, List.lookup_cons, show (("changes" : Str) == "by_path") = false by decide +kernel, List.lookup_cons, beq_self_eq_true]
theorem lkp_no {x y z : V} {m : Str} (h1 : m ≠ "name") (h2 : m ≠ "by_path") (h3 : m ≠ "changes") : ([(("name" : Str), x), ("by_path", y), ("changes", z)] : List (Str × V)).lookup m = none := by
  rw [List.lookup_cons, beq_false_of_ne h1, List.lookup_cons, beq_false_of_ne h2, List.lookup_cons, beq_false_of_ne h3]; rfl
section
variable {P : Program} {w : World} {K : PySem.W.Frag} {mg : Str → Option Value} {base : Heap} {ad : Ad}
/-- the call of the class, its arguments a name and changes -/
theorem mkPat {H : Hp} {x dx : Addr} {n : Str} {as : List Addr} {cs : List Ch} {R : Hp → Prop} {E : XK} (hx : H x = none) (hdx : H dx = none) (hne : dx ≠ x) (hcs : ChsAt K ad H as cs) (hn : NameOk n) (hl : cs.length < 60) (hpl : ∀ c ∈ cs, c.path.length ≤ 100)
    (e : ∀ p, dupP [] (cs.map Ch.path) = some p → ∀ H' d, Same H H' → H d = none → H' d = some (.xd [("path", .str p)]) → E (.ref ad.c_BadPatch) (some d) H')
    (q : dupP [] (cs.map Ch.path) = none → ∀ H' cs', Same H H' → cs'.Perm cs → PyProof.Rows.sortedS (cs'.map Ch.path) = true → PtAt K ad H' x ⟨n, cs'⟩ → R H') :
    spStar 2 (spPat K ad) (.ref x :: .str n :: as.map V.ref) (upd (upd H dx (.own x)) x (.ins ad.c_Patch dx [])) (fun v H2 => v = .non ∧ R H2) E := by
  have s0 := mkn_same (o1 := .own x) (o2 := .ins ad.c_Patch dx []) hx hdx
  refine ⟨[.ref x, .str n], as.map V.ref, rfl, rfl, by rw [List.length_map, prd_len hcs, sizeLine_eq]; omega, fun t ht => ?_⟩
  have nxt : x ≠ t := ne_of_none upd_same ht
  have ht0 : H t = none := upd_none (upd_none ht)
  have s1 := s0.trans (Same.new (o := .tup (as.map V.ref)) ht)
  refine ⟨x, dx, t, n, as, cs, rfl, upd_oth nxt upd_same, upd_same, hcs.same s1, hn, hl, hpl, fun p dp H' d b hd hd1 => ?_, fun nd H' cs' b pm srt hp => ⟨rfl, ?_⟩⟩
  · exact e p dp H' d (SameB.same_of_fresh hx hdx ht0 b) (upd_none (upd_none (upd_none hd))) hd1
  · exact q nd H' cs' (SameB.same_of_fresh hx hdx ht0 b) pm srt hp
theorem ok_Patch_of (T : Txt P K mg ad) : FnOk P w K mg base (L2.CX P w) 10 ad.a_Patch_of ad.d_Patch_of ["cls", "name", "changes"] (spOf K ad) := by
  refine T.f_Patch_of.okX sc_Patch_of (fun vs H Q E h => ?_) (fun cdv A outer s H vs Q E hr h => ?_)
  · obtain ⟨n, t, as, cs, rfl, _⟩ := h; rfl
  · obtain ⟨n, t, as, cs, rfl, ht, hcs, hn, hl, hpl, e, q⟩ := h
    refine ⟨_, pss_one (ps_ret (pe_mkLs T.mk_Patch (ok_Patch_XinitX T) (hr.mono (by decide)) 0 rfl (by first | exact Or.inl rfl | exact Or.inr (Or.inl rfl)) (fun σ => passAt (takes_of rfl rfl rfl rfl) σ) (pa_cons (cv 1) (StX.pa_star (cv 2) pa_nil)))), ?_⟩
    refine ⟨rfl, ?_⟩
    refine ⟨t, _, rfl, .inl (SqT.of ht), ?_⟩
    intro x dx hx hdx hne
    rw [List.append_nil]
    exact mkPat hx hdx hne hcs hn hl hpl e fun nd H' cs' s pm srt hp => q nd x H' cs' s pm srt hp
theorem dChr (T : Txt P K mg ad) {H : Hp} {a c : Addr} {o p : Ch} (h : ChAt K ad H a o) (g : ChAt K ad H c p) : DCr K ad (.ref a) (.ref c) H (decide (o = p)) :=
  ⟨dCh T h g, a, c, rfl, rfl, fun e => by subst e; exact decide_eq_true (h.uniq T g)⟩
theorem dChs (T : Txt P K mg ad) {H : Hp} {p q : Addr} {as bs : List Addr} {hs gs : List Ch} (hp : H p = some (.tup (as.map V.ref))) (hq : H q = some (.tup (bs.map V.ref))) (x : ChsAt K ad H as hs) (y : ChsAt K ad H bs gs) :
    DTp K (DCr K ad) (.ref p) (.ref q) H (decide (hs = gs)) := by
  refine ⟨p, q, _, _, fun i => decide (hs[i]? = gs[i]?), rfl, rfl, SqT.of hp, SqT.of hq, fun i u v hu hv => ?_, ?_⟩
  · rw [List.getElem?_map] at hu hv
    obtain ⟨a, ea, rfl⟩ := Option.map_eq_some_iff.mp hu
    obtain ⟨b, eb, rfl⟩ := Option.map_eq_some_iff.mp hv
    obtain ⟨h, e1, h1⟩ := prd_get x ea
    obtain ⟨g, e2, g1⟩ := prd_get y eb
    show DCr K ad _ _ H (decide (hs[i]? = gs[i]?))
    rw [e1, e2, show decide (some h = some g) = decide (h = g) by by_cases z : h = g <;> simp [z]]
    exact dChr T h1 g1
  · rw [List.length_map, List.length_map, prd_len x, prd_len y, all_eq]
theorem ok_Patch_XeqX (T : Txt P K mg ad) : FnOk P w K mg base CX0 10 ad.a_Patch_XeqX ad.d_Patch_XeqX ["self", "other"] (spEqB (RPt K ad)) := by
  refine T.f_Patch_XeqX.ok sc_Patch_XeqX (fun vs H Q E h => ?_) (fun cdv A outer s H vs Q E hr h => ?_)
  · obtain ⟨x, y, b, rfl, _⟩ := h; rfl
  · obtain ⟨x, y, b, rfl, ⟨a, p, rfl, hp, d⟩, q⟩ := h
    refine ⟨_, pss_one (ps_ret (ce_and (pe_callB (cc_isi (K := K)) (by rfl) T.n_isinstance (by decide +kernel) (pa_cons (cv 1) (pa_cons (pe_glob (v := .ref ad.c_Patch) rfl T.mg_Patch rfl) pa_nil))) (ce_and (pe_cmpR (oc_eq (K := K) hr.units) (ce_fld (K := K) (cv 0) rfl) (ce_fld (K := K) (cv 1) rfl) (nomark _)) (pe_one (pe_cmpR (op_cmpB (ne := false) (rcB_chsK (K := K) (ok_Change_XeqX T) T.fn_Change_XeqX T.b_Change_XeqX) (hr.mono (by decide))) (ce_fld (K := K) (cv 0) rfl) (ce_fld (K := K) (cv 1) rfl) (nomark _)))))), ?_⟩
    obtain ⟨dx, dd, q1, as, ha, hq1, hcs⟩ := id hp
    rcases d with ⟨c, o, rfl, ho, rfl⟩ | ⟨c, xs, rfl, hc, rfl⟩ | ⟨t, rfl, rfl⟩
    · obtain ⟨dy, de, q2, bs, hb, hq2, hds⟩ := id ho
      tm_at "w"
      refine ⟨_, true, T.cl_Patch.ins hb, T.cl_Patch.kit T.su_Patch (fun _ => rfl), ?_⟩
      refine .t ?_
      refine ⟨_, dx, _, _, ha, T.cl_Patch.cl, T.na_Patch_name, lkp1, ?_⟩
      refine ⟨_, dy, _, _, hb, T.cl_Patch.cl, T.na_Patch_name, lkp1, ?_⟩
      obtain ⟨n1, c1⟩ := p
      obtain ⟨n2, c2⟩ := o
      refine ⟨fun h => ?_, fun h => ?_⟩
      · have h : n1 = n2 := of_decide_eq_true h
        refine ⟨_, dx, _, _, ha, T.cl_Patch.cl, T.na_Patch_changes, lkp3, ?_⟩
        refine ⟨_, dy, _, _, hb, T.cl_Patch.cl, T.na_Patch_changes, lkp3, ?_⟩
        refine ⟨_, dChs T hq1 hq2 hcs hds, fun H' e => ?_⟩
        rw [bne_f]
        have := q H' e
        rw [show decide ((⟨n1, c1⟩ : Pt) = ⟨n2, c2⟩) = decide (c1 = c2) by by_cases z : c1 = c2 <;> simp [h, z]] at this
        exact this
      · have h : n1 ≠ n2 := of_decide_eq_false h
        have := q H (fun _ _ z => z)
        rw [show decide ((⟨n1, c1⟩ : Pt) = ⟨n2, c2⟩) = false by simp [h]] at this
        exact this
    · tm_at "w"
      refine ⟨_, false, .base (.tup hc), T.cl_Patch.kit T.st_Patch (fun h => nomatch h), ?_⟩
      exact .f (q H (fun _ _ z => z))
    · tm_at "w"
      refine ⟨_, false, .base (.str t), T.cl_Patch.kit T.ss_Patch (fun h => nomatch h), ?_⟩
      exact .f (q H (fun _ _ z => z))
end
end Toy

namespace Toy
open PySem L2
local macro_rules | `(tactic| tm_at "w") => `(tactic| (conv => whnf))
local macro_rules | `(tactic| tm_at "fr") => `(tactic| first | assumption | exact upd_none (by assumption) | exact upd_none (upd_none (by assumption)) | exact upd_none (upd_none (upd_none (by assumption))) | exact upd_none (upd_none (upd_none (upd_none (by assumption)))))
local macro_rules | `(tactic| tm_at "ne") => `(tactic| first | assumption | (apply Ne.symm; assumption) | exact upd_none_ne (by assumption) | exact (upd_none_ne (by assumption)).symm | exact upd_none_ne (upd_none (by assumption)) | exact (upd_none_ne (upd_none (by assumption))).symm | exact upd_none_ne (upd_none (upd_none (by assumption))) | exact (upd_none_ne (upd_none (upd_none (by assumption)))).symm)
local macro_rules | `(tactic| tm_at "heap") => `(tactic| first | assumption | exact upd_same | (refine upd_new ?_ (by tm_at "fr"); tm_at "heap") | (refine upd_oth (by tm_at "ne") ?_; tm_at "heap") | (refine SameB.get (by assumption) (by tm_at "ne") ?_; tm_at "heap") | (refine Same.get (by assumption) ?_; tm_at "heap"))
local macro_rules | `(tactic| tm_at "sq") => `(tactic| first | assumption | exact SqL.of (by tm_at "heap") | exact SqT.of (by tm_at "heap"))
local macro_rules | `(tactic| tm_at "ix") => `(tactic| (conv => whnf); first | refine ⟨_, _, .inl (by tm_at "sq"), rfl, ?_⟩ | refine ⟨_, _, .inr (by tm_at "sq"), rfl, ?_⟩)
local macro_rules | `(tactic| tm_at "sb") => `(tactic| first | assumption | exact SameB.refl | (refine SameB.ws ?_; tm_at "sb") | (refine SameB.wr ?_ (by tm_at "fr"); tm_at "sb") | (refine SameB.trans ?_ (by assumption); tm_at "sb"))
/-! trees -/
abbrev Fs := List (Str × List Str)
def TrAt (ad : Ad) (H : Hp) (a : Addr) (fs : Fs) : Prop := ∃ dx d q ps, H a = some (.ins ad.c_Tree dx [("by_path", .ref d), ("sorted_paths", .ref q)]) ∧ DcT H d fs ∧ H q = some (.tup (ps.map V.str)) ∧ ps.Perm (fs.map Prod.fst) ∧ PyProof.Rows.sortedS ps = true ∧ (fs.map Prod.fst).Nodup
theorem dcT_same {H H' : Hp} {d : Addr} {fs : Fs} (h : DcT H d fs) (e : Same H H') : DcT H' d fs := by
  obtain ⟨kvs, h1, h2⟩ := h
  exact ⟨kvs, e _ _ h1, h2.mono fun _ _ q => q.same e⟩
theorem TrAt.same {ad : Ad} {H H' : Hp} {a : Addr} {fs : Fs} (h : TrAt ad H a fs) (e : Same H H') : TrAt ad H' a fs := by
  obtain ⟨dx, d, q, ps, h1, h2, h3, h4⟩ := h
  exact ⟨dx, d, q, ps, e _ _ h1, dcT_same h2 e, e _ _ h3, h4⟩
def FsOk (fs : Fs) : Prop := (fs.map Prod.fst).Nodup ∧ (∀ f ∈ fs, PathOk f.1) ∧ fs.length < 50
/-- a pair of a path and its lines -/
def PfAt (H : Hp) (t : Addr) (f : Str × List Str) : Prop := ∃ p, H t = some (.tup [.str f.1, .ref p]) ∧ H p = some (.tup (f.2.map V.str))
theorem PfAt.same {H H' : Hp} {t : Addr} {f : Str × List Str} (h : PfAt H t f) (e : Same H H') : PfAt H' t f := by
  obtain ⟨p, h1, h2⟩ := h
  exact ⟨p, e _ _ h1, e _ _ h2⟩
def spTrI (ad : Ad) : Sp := fun vs H Q _ => ∃ (x dx t : Addr) (ts : List Addr) (fs : Fs), vs = [.ref x, .ref t] ∧ H x = some (.ins ad.c_Tree dx []) ∧ H t = some (.tup (ts.map V.ref)) ∧ Paired (PfAt H) ts fs ∧ FsOk fs ∧
  ∀ H', SameB x H H' → TrAt ad H' x fs → Q .non H'
def spFound (ad : Ad) : Sp := fun vs H Q _ => ∃ a p fs, vs = [.ref a, .str p] ∧ TrAt ad H a fs ∧ (getF fs p = none → Q .non H) ∧ ∀ ls q, getF fs p = some ls → H q = some (.tup (ls.map V.str)) → Q (.ref q) H
def spFile (ad : Ad) : Sp := fun vs H Q _ => ∃ a p fs ls, vs = [.ref a, .str p] ∧ TrAt ad H a fs ∧ getF fs p = some ls ∧ ∀ q, H q = some (.tup (ls.map V.str)) → Q (.ref q) H
def spPut (ad : Ad) : Sp := fun vs H Q _ => ∃ a p q fs ls, vs = [.ref a, .str p, .ref q] ∧ TrAt ad H a fs ∧ H q = some (.tup (ls.map V.str)) ∧ FsOk fs ∧ PathOk p ∧ fs.length < 49 ∧ ∀ x H', Same H H' → TrAt ad H' x (putF' fs p ls) → Q (.ref x) H'
def spDrop (ad : Ad) : Sp := fun vs H Q _ => ∃ a p fs ls, vs = [.ref a, .str p] ∧ TrAt ad H a fs ∧ FsOk fs ∧ getF fs p = some ls ∧ ∀ x H', Same H H' → TrAt ad H' x (dropF fs p) → Q (.ref x) H'
def sameF (fs gs : Fs) : Bool := fs.length == gs.length && fs.all fun f => decide (getF gs f.1 = some f.2)
/-- what == says of trees -/
def RTr (ad : Ad) : EqvB := fun x y H b => ∃ a c fs gs, x = .ref a ∧ y = .ref c ∧ TrAt ad H a fs ∧ TrAt ad H c gs ∧ b = sameF fs gs
theorem monRTr (ad : Ad) : MonB (RTr ad) := fun x y H H' b e ⟨a, c, fs, gs, h1, h2, h3, h4, h5⟩ => ⟨a, c, fs, gs, h1, h2, h3.same e, h4.same e, h5⟩
theorem sameF_self {fs : Fs} (nd : (fs.map Prod.fst).Nodup) : sameF fs fs = true := by
  unfold sameF
  rw [beq_self_eq_true, Bool.true_and, List.all_eq_true]
  rintro ⟨p, ls⟩ hf
  exact decide_eq_true (getF_of_mem nd hf)
theorem flR_keys {α : Type} {R : V → α → Prop} {kvs : List (Key × V)} {fs : List (Str × α)} (h : FlR R kvs fs) : kvs.map (fun x => x.1) = (fs.map Prod.fst).map Sum.inr := by
  unfold FlR at h
  induction h with
  | nil => rfl
  | cons r _ ih => rw [List.map_cons, List.map_cons, List.map_cons, ih, r.1]
theorem prd_comp {α β γ : Type} {F : α → β → Prop} {G : β → γ → Prop} {E : α → γ → Prop} (h : ∀ a b c, F a b → G b c → E a c) : ∀ {l : List α} {m : List β} {n : List γ}, Paired F l m → Paired G m n → Paired E l n
  | _, _, _, .nil, .nil => .nil
  | _, _, _, .cons r t, .cons q u => .cons (h _ _ _ r q) (prd_comp h t u)
/-- the pairs of a dict in tuples of their own -/
theorem pfs_of {H H' : Hp} (s : Same H H') {ts : List Addr} {kvs : List (Key × V)} {fs : Fs} (pr : Paired (fun (t : Addr) (q : Key × V) => H' t = some (.tup [kV q.1, q.2])) ts kvs) (h : FlR (RTup H) kvs fs) : Paired (PfAt H') ts fs :=
  prd_comp (fun t kv f h1 h2 => by
    obtain ⟨e1, p, e2, e3⟩ := h2
    rw [e1, e2] at h1
    exact ⟨p, h1, s _ _ e3⟩) pr h
theorem hits_fs {K : PySem.W.Frag} {H : Hp} {kvs kws : List (Key × V)} {fs gs : Fs} (h : FlR (RTup H) kvs fs) (g : FlR (RTup H) kws gs) : HitsD K H kws kvs (fs.all fun f => decide (getF gs f.1 = some f.2)) := by
  unfold FlR at h
  induction h with
  | nil => exact .nil
  | @cons kv f _ _ r t ih =>
    obtain ⟨k, v⟩ := kv
    obtain ⟨r1, p, r2, r3⟩ := r
    cases r1
    cases (r2 : v = _)
    rw [List.all_cons]
    cases e : getF gs f.1 with
    | none =>
      rw [show decide ((none : Option (List Str)) = some f.2) = false from rfl, Bool.false_and]
      exact .miss (g.of_none e)
    | some ms =>
      obtain ⟨y, hy, p', rfl, hp'⟩ := g.of_some e
      have := HitsD.hit (K := K) (H := H) hy (.seq (.inr ⟨SqT.of r3, SqT.of hp'⟩) (flatV_strs _) (flatV_strs _) fun z => by subst z; rw [r3] at hp'; rw [eqVs_strs, strs_inj (HO.tup.inj (Option.some.inj hp'))]; exact decide_eq_true rfl) ih
      rw [eqVs_strs] at this
      rw [show decide (some ms = some f.2) = decide (f.2 = ms) by by_cases z : f.2 = ms <;> simp [z, show ¬ f.2 = ms → ¬ ms = f.2 from fun a b => a b.symm]]
      exact this
theorem by_so : ¬ (("by_path" : Str) = "sorted_paths") := by decide +kernel
theorem lkt1 {x y : V} : ([(("by_path" : Str), x), ("sorted_paths", y)] : List (Str × V)).lookup ("by_path" : Str) = some x := by rw [List.lookup_cons, beq_self_eq_true]
theorem lkt2 {x y : V} : ([(("by_path" : Str), x), ("sorted_paths", y)] : List (Str × V)).lookup ("sorted_paths" : Str) = some y := by
  rw [List.lookup_cons, show (("sorted_paths" : Str) == "by_path") = false by decide +kernel, List.lookup_cons, beq_self_eq_true]
theorem lkt_no {x y : V} {m : Str} (h1 : m ≠ "by_path") (h2 : m ≠ "sorted_paths") : ([(("by_path" : Str), x), ("sorted_paths", y)] : List (Str × V)).lookup m = none := by
  rw [List.lookup_cons, beq_false_of_ne h1, List.lookup_cons, beq_false_of_ne h2]; rfl
section
variable {P : Program} {w : World} {K : PySem.W.Frag} {mg : Str → Option Value} {base : Heap} {ad : Ad}
theorem ok_Tree_XinitX (T : Txt P K mg ad) : FnOk P w K mg base CX0 3 ad.a_Tree_XinitX ad.d_Tree_XinitX ["self", "files"] (spTrI ad) := by
  refine T.f_Tree_XinitX.ok sc_Tree_XinitX (fun vs H Q E h => ?_) (fun cdv A outer s H vs Q E hr h => ?_)
  · obtain ⟨x, dx, t, ts, fs, rfl, _⟩ := h; rfl
  · obtain ⟨x, dx, t, ts, fs, rfl, hx, ht, hp, ⟨nd, hpo, hl⟩, q⟩ := h
    refine ⟨_, pss_cons (cs_fld (K := K) (cv 0) pe_dnewK rfl)
      (pss_cons (ps_for PassesOwn.never rfl (pic_seq (K := K) (cv 1)) (pg_tup rfl (pgs_cons (pg_name (i := 2) sc_Tree_XinitX.nd rfl (by first | exact Or.inl rfl | exact Or.inr rfl)) (pgs_cons (pg_name (i := 3) sc_Tree_XinitX.nd rfl (by first | exact Or.inl rfl | exact Or.inr rfl)) pgs_nil)))
        (pss_cons (cs_if (PW.pt (cw_or (pt_not (ct_val (pe_call (ok_is_path T) (hr.mono (by decide)) rfl T.m_is_path T.k_is_path T.b_is_path .nil pass0 (pa_cons (cv 2) pa_nil)))) (pw_or1 (ct_cmp (oc_din hr.units) (cv 2) (ce_fld (K := K) (cv 0) rfl) rfl))))
          (pss_one ps_dead)
          pss_nil)
        (pss_one (ps_dput (hu_of hr) (ce_fld (K := K) (cv 0) rfl) (cv 2) (cv 3) rfl))))
      (pss_one (cs_fld (K := K) (cv 0) (pe_callTy (cc_tuple (K := K)) (by rfl) T.n_tuple (by decide +kernel) (pa_cons (pe_callB (call_sortedD rfl) (by rfl) T.n_sorted (by decide +kernel) (pa_cons (ce_fld (K := K) (cv 0) rfl) pa_nil)) pa_nil)) rfl))), ?_⟩
    intro dd hdd
    have hxd : x ≠ dd := ne_of_none hx hdd
    have hxt : t ≠ x := fun z => by subst z; rw [ht] at hx; cases hx
    have htd : t ≠ dd := ne_of_none ht hdd
    refine ⟨_, dx, [], upd_oth hxd hx, T.cl_Tree.cl, T.na_Tree_by_path, by show 0 < 1000; decide, ?_⟩
    generalize hG : upd (upd H dd (.dK [])) x _ = G
    have b1 : SameB x H G := hG ▸ SameB.ws (SameB.new hdd)
    have gx : G x = some (.ins ad.c_Tree dx [("by_path", .ref dd)]) := by rw [← hG, upd_same]; rfl
    have gd : G dd = some (.dK []) := by rw [← hG]; exact upd_oth hxd.symm upd_same
    clear hG
    have gt : G t = some (.tup (ts.map V.ref)) := b1.get hxt ht
    have gp : Paired (PfAt G) ts fs := prd_mono (fun t f g => by
      obtain ⟨p, h1, h2⟩ := g
      exact ⟨p, b1.get (fun z => by subst z; rw [h1] at hx; cases hx) h1, b1.get (fun z => by subst z; rw [h2] at hx; cases hx) h2⟩) hp
    refine .inr ⟨t, rfl, ⟨_, SqT.of gt⟩, ?_⟩
    have hlen : ts.length = fs.length := prd_len hp
    refine for_tup (K := K) (a := t) (xs := ts.map V.ref) (fun i σ H' => ∃ u v kvs, σ = [some (.ref x), some (.ref t), u, v] ∧ H' dd = some (.dK kvs) ∧ SameB dd G H' ∧ FlR (RTup G) kvs (fs.take i)) ⟨_, _, [], rfl, gd, SameB.refl, by rw [List.take_zero]; exact .nil⟩ ?_ ?_ ?_
    · rintro i σ H' _ ⟨u, v, kvs, _, _, s2, _⟩
      exact SqT.of (s2.get htd gt)
    · rintro i y σ H2 hy ⟨u, v, kvs, rfl, h2, s2, h3⟩
      rw [List.getElem?_map] at hy
      obtain ⟨a, ea, rfl⟩ := Option.map_eq_some_iff.mp hy
      obtain ⟨f, ef, p, h4, h5⟩ := prd_get gp ea
      have nad : a ≠ dd := fun z => by subst z; rw [h4] at gd; cases gd
      obtain ⟨p1, p2, p3, p4⟩ := hpo f (List.mem_of_getElem? ef)
      refine ⟨a, _, rfl, SqT.of (s2.get nad h4), rfl, ?_⟩
      refine ⟨_, _, rfl, _, _, rfl, rfl, ?_⟩
      refine ⟨f.1, rfl, by omega, p3, p4, fun H3 s3 => ?_⟩
      rw [p1]
      refine .f ?_
      have gx3 : H3 x = some (.ins ad.c_Tree dx [("by_path", .ref dd)]) := s3 _ _ (s2.get hxd gx)
      have gd3 := s3 _ _ h2
      refine ⟨_, dx, _, _, gx3, T.cl_Tree.cl, T.na_Tree_by_path, by rw [List.lookup_cons, beq_self_eq_true], ?_⟩
      refine ⟨_, gd3, ?_⟩
      rw [bne_f, h3.isSome]
      have hnin : f.1 ∉ (fs.take i).map Prod.fst := by
        have nd2 := nd
        rw [drop_at ef, List.map_append, List.map_cons] at nd2
        exact fun z => (List.nodup_append.mp nd2).2.2 _ z _ List.mem_cons_self rfl
      rw [decide_eq_false hnin]
      refine .f ?_
      refine ⟨_, dx, _, _, gx3, T.cl_Tree.cl, T.na_Tree_by_path, by rw [List.lookup_cons, beq_self_eq_true], ?_⟩
      refine ⟨_, _, rfl, DPut.k (k := Sum.inr f.1) gd3 (by rw [sizeLine_eq, h3.len, List.length_take]; omega), ?_⟩
      refine ⟨_, _, _, rfl, upd_same, (s2.trans (SameB.of s3)).ws, ?_⟩
      rw [take_snoc ef, ← put_fresh hnin]
      exact h3.put ⟨p, rfl, h5⟩
    · rintro σ H2 ⟨u, v, kvs, rfl, h2, s2, h3⟩
      rw [List.length_map, hlen, List.take_length] at h3
      have gx3 : H2 x = some (.ins ad.c_Tree dx [("by_path", .ref dd)]) := s2.get hxd gx
      refine ⟨_, dx, _, _, gx3, T.cl_Tree.cl, T.na_Tree_by_path, by rw [List.lookup_cons, beq_self_eq_true], ?_⟩
      refine ⟨dd, _, fs.map Prod.fst, rfl, .inl h2, flR_keys h3, by rw [List.length_map]; omega, fun ys p pm srt hp => ?_⟩
      refine ⟨_, .inl ⟨SqL.of upd_same, fun tq htq => ?_⟩⟩
      have hxp : x ≠ p := ne_of_none gx3 hp
      have hxq : x ≠ tq := ne_of_none (upd_oth hxp gx3) htq
      refine ⟨_, dx, _, upd_oth hxq (upd_oth hxp gx3), T.cl_Tree.cl, T.na_Tree_sorted_paths, by show 1 < 1000; decide, ?_⟩
      have hp0 : G p = none := s2.free (ne_of_none h2 hp).symm hp
      have hpH : H p = none := b1.free hxp.symm hp0
      have htq2 : H2 tq = none := upd_none htq
      have htqH : H tq = none := b1.free hxq.symm (s2.free (ne_of_none h2 htq2).symm htq2)
      generalize hZ : upd (upd (upd H2 p _) tq _) x _ = Z
      have bx : SameB x H Z := by
        intro b o n hb
        rw [← hZ, upd_ne n, upd_ne (ne_of_none hb htqH), upd_ne (ne_of_none hb hpH)]
        exact s2 b o (ne_of_none hb hdd) (b1 b o n hb)
      have zx : Z x = some (.ins ad.c_Tree dx [("by_path", .ref dd), ("sorted_paths", .ref tq)]) := by rw [← hZ, upd_same, putF2 by_so]
      have zq : Z tq = some (.tup (ys.map V.str)) := by rw [← hZ]; exact upd_oth hxq.symm upd_same
      have zd : Z dd = some (.dK kvs) := by
        rw [← hZ, upd_ne hxd.symm, upd_ne (ne_of_none (upd_new h2 hp) htq), upd_ne (ne_of_none h2 hp)]; exact h2
      have zg : ∀ b o, b ≠ x → b ≠ dd → G b = some o → Z b = some o := fun b o n1 n2 hb => by
        have h := s2 b o n2 hb
        rw [← hZ, upd_ne n1, upd_ne (ne_of_none (upd_new h hp) htq), upd_ne (ne_of_none h hp)]
        exact h
      refine q Z bx ⟨dx, dd, tq, ys, zx, ⟨kvs, zd, h3.mono fun v ls hv => ?_⟩, zq, pm, srt, nd⟩
      obtain ⟨p', e1, e2⟩ := hv
      refine ⟨p', e1, zg _ _ (fun z => ?_) (fun z => ?_) e2⟩
      · subst z; rw [gx] at e2; cases e2
      · subst z; rw [gd] at e2; cases e2
theorem ok_Tree_found (T : Txt P K mg ad) : FnOk P w K mg base CX0 1 ad.a_Tree_found ad.d_Tree_found ["self", "path"] (spFound ad) := by
  refine T.f_Tree_found.ok sc_Tree_found (fun vs H Q E h => ?_) (fun cdv A outer s H vs Q E hr h => ?_)
  · obtain ⟨a, p, fs, rfl, _⟩ := h; rfl
  · obtain ⟨a, p, fs, rfl, ⟨dx, d, q, ps, h1, ⟨kvs, h2, h3⟩, h4⟩, q1, q2⟩ := h
    refine ⟨_, pss_one (ps_ret (pe_dget1 (hu_of hr) (ce_fld (K := K) (cv 0) rfl) (cv 1) ⟨rfl, rfl, rfl, rfl⟩)), ?_⟩
    refine ⟨_, dx, _, _, h1, T.cl_Tree.cl, T.na_Tree_by_path, lkt1, ?_⟩
    refine ⟨d, rfl, .inl ⟨kvs, .inl h2⟩, ?_⟩
    refine ⟨_, DGet.k (k := Sum.inr p) h2, ?_⟩
    cases e : getF fs p with
    | none => rw [h3.of_none e]; exact q1 e
    | some ls =>
      obtain ⟨v, hv, u, rfl, hu⟩ := h3.of_some e
      rw [hv]
      exact q2 ls u e hu
theorem ok_Tree_file (T : Txt P K mg ad) : FnOk P w K mg base CX0 1 ad.a_Tree_file ad.d_Tree_file ["self", "path"] (spFile ad) := by
  refine T.f_Tree_file.ok sc_Tree_file (fun vs H Q E h => ?_) (fun cdv A outer s H vs Q E hr h => ?_)
  · obtain ⟨a, p, fs, ls, rfl, _⟩ := h; rfl
  · obtain ⟨a, p, fs, ls, rfl, ⟨dx, d, q, ps, h1, ⟨kvs, h2, h3⟩, h4⟩, e, q2⟩ := h
    refine ⟨_, pss_cons (cs_if (ct_cmp (oc_dnotin hr.units) (cv 1) (ce_fld (K := K) (cv 0) rfl) rfl)
        (pss_one ps_dead)
        pss_nil)
      (pss_one (ps_ret (pe_dget (hu_of hr) (ce_fld (K := K) (cv 0) rfl) (cv 1) (fun _ _ => rfl)))), ?_⟩
    obtain ⟨v, hv, u, rfl, hu⟩ := h3.of_some e
    refine ⟨_, dx, _, _, h1, T.cl_Tree.cl, T.na_Tree_by_path, lkt1, ?_⟩
    refine ⟨kvs, h2, ?_⟩
    rw [hv]
    refine .f ?_
    refine ⟨_, dx, _, _, h1, T.cl_Tree.cl, T.na_Tree_by_path, lkt1, ?_⟩
    exact ⟨d, _, rfl, hv ▸ DGet.k (k := Sum.inr p) h2, q2 u hu⟩
theorem ok_Tree_put (T : Txt P K mg ad) : FnOk P w K mg base CX0 5 ad.a_Tree_put ad.d_Tree_put ["self", "path", "lines"] (spPut ad) := by
  refine T.f_Tree_put.ok sc_Tree_put (fun vs H Q E h => ?_) (fun cdv A outer s H vs Q E hr h => ?_)
  · obtain ⟨a, p, q, fs, ls, rfl, _⟩ := h; rfl
  · obtain ⟨a, p, q, fs, ls, rfl, ⟨dx, d, sq, ps, h1, ⟨kvs, h2, h3⟩, h4⟩, hq, ⟨nd, hpo, hl⟩, hpp, hl2, k⟩ := h
    refine ⟨_, pss_one (ps_ret (pe_make T.mk_Tree (ok_Tree_XinitX T) (hr.mono (by decide)) rfl T.mg_Tree T.b_Tree_XinitX .nil pass0 (pa_cons (pe_tupItems rfl (pe_dmrg (ce_fld (K := K) (cv 0) rfl) (cv 1) (cv 2)) rfl T.n_tuple (by decide +kernel)) pa_nil))), ?_⟩
    intro m hm
    have hdm : d ≠ m := ne_of_none h2 hm
    refine ⟨_, dx, _, _, upd_new h1 hm, T.cl_Tree.cl, T.na_Tree_by_path, lkt1, ?_⟩
    refine ⟨d, kvs, rfl, hdm, .inl (upd_new h2 hm), upd_same, by rw [h3.len, sizeLine_eq]; omega, fun m2 hm2 => ?_⟩
    refine ⟨Sum.inr p, rfl, upd_same, upd_new upd_same hm2, ?_⟩
    have nm : m ≠ m2 := ne_of_none upd_same hm2
    refine ⟨m, _, rfl, upd_same, fun H' t ts s1 ht hts htn h' pr => ?_⟩
    have hm20 : H m2 = none := upd_none (upd_none hm2)
    have s2 : Same H H' := fun b o hb => s1 b o (by
      have n1 := ne_of_none hb hm
      have n2 := ne_of_none hb hm20
      rw [upd_ne n1, upd_ne n2, upd_ne n2, upd_ne n1, upd_ne n1]; exact hb)
    intro x dx' hx hdx hne
    have nxt : t ≠ x := ne_of_none h' hx
    have fo : FsOk (putF' fs p ls) := ⟨nodup_put nd, fun f hf => by
      rcases mem_put hf with e | e
      · subst e; exact hpp
      · exact hpo f e, by have := length_put (fs := fs) (p := p) (x := ls); omega⟩
    have s3 := mkn_same (o1 := .own x) (o2 := .ins ad.c_Tree dx' []) hx hdx
    refine ⟨x, dx', t, ts, putF' fs p ls, rfl, upd_same, s3 _ _ h', ?_, fo, fun H3 b3 t3 => ⟨rfl, k x H3 (s2.trans (mk_same hx hdx b3)) t3⟩⟩
    exact prd_mono (fun _ _ g => PfAt.same g s3) (pfs_of s2 pr (h3.put ⟨q, rfl, hq⟩))
theorem ok_Tree_drop (T : Txt P K mg ad) : FnOk P w K mg base CX0 5 ad.a_Tree_drop ad.d_Tree_drop ["self", "path"] (spDrop ad) := by
  refine T.f_Tree_drop.ok sc_Tree_drop (fun vs H Q E h => ?_) (fun cdv A outer s H vs Q E hr h => ?_)
  · obtain ⟨a, p, fs, ls, rfl, _⟩ := h; rfl
  · obtain ⟨a, p, fs, ls, rfl, ⟨dx, d, sq, ps, h1, ⟨kvs, h2, h3⟩, h4⟩, ⟨nd, hpo, hl⟩, e, k⟩ := h
    refine ⟨_, pss_cons (cs_if (ct_cmp (oc_dnotin hr.units) (cv 1) (ce_fld (K := K) (cv 0) rfl) rfl)
        (pss_one ps_dead)
        pss_nil)
      (pss_one (ps_ret (pe_make T.mk_Tree (ok_Tree_XinitX T) (hr.mono (by decide)) rfl T.mg_Tree T.b_Tree_XinitX .nil pass0 (pa_cons (pe_callTy (cc_tuple (K := K)) (by rfl) T.n_tuple (by decide +kernel) (pa_cons (pe_lock (pe_lc (own := [("own", 2), ("lines", 3)]) (g := gTup K 2 (gCons (gName 2) (gCons (gName 3) (gNil)))) (by rfl) sc_Tree_drop.nd  (pi_items (ce_fld (K := K) (cv 0) rfl)) (blkOk_by (own := [("own", 2), ("lines", 3)]) (N := N_Tree_drop) (sc := defScope s_Tree_drop) (by decide +kernel)) (fun _ _ _ _ _ => pg_tup rfl (pgs_cons (pg_name (i := 2) sc_Tree_drop.nd rfl (by first | exact Or.inl rfl | exact Or.inr rfl)) (pgs_cons (pg_name (i := 3) sc_Tree_drop.nd rfl (by first | exact Or.inl rfl | exact Or.inr rfl)) pgs_nil))) (fun _ _ _ _ _ => pts_one (ct_cmp (oc_ne (K := K) hr.units) (cv 2) (cv 1) (nomark _))) (fun _ _ _ _ _ => pe_tup (pa_cons (cv 2) (pa_cons (cv 3) pa_nil))))) pa_nil)) pa_nil)))), ?_⟩
    obtain ⟨v, hv, u, rfl, hu⟩ := h3.of_some e
    refine ⟨_, dx, _, _, h1, T.cl_Tree.cl, T.na_Tree_by_path, lkt1, ?_⟩
    refine ⟨kvs, h2, ?_⟩
    rw [hv]
    refine .f ?_
    refine ⟨d, _, h2, trivial, fun od => ?_⟩
    have had : a ≠ d := fun z => by subst z; rw [h1] at h2; cases h2
    refine ⟨_, dx, _, _, upd_oth had h1, T.cl_Tree.cl, T.na_Tree_by_path, lkt1, ?_⟩
    refine ⟨d, od, kvs, rfl, upd_same, fun D hD => ?_⟩
    refine lc_fl (walk_itemsF h3) (fun f : Str × List Str => decide (f.1 ≠ p)) (fun y f H' => ∃ t, y = .ref t ∧ PfAt H' t f) rfl (fun y f H3 H4 acc hD3 s3 ⟨t, e1, q', e2, e3⟩ => ⟨t, e1, q', s3.get (fun z => by subst z; rw [e2] at hD3; cases hD3) e2, s3.get (fun z => by subst z; rw [e3] at hD3; cases hD3) e3⟩) hD (by omega) (fun H3 s3 => s3 _ _ upd_same) ?_ ?_
    · rintro i f x H3 H4 Nx Nz ef s3 ⟨t, fp, fl, fv, rfl, ht, rfl, ef', q', rfl, hq'⟩ k1 k2
      rw [ef] at ef'
      cases ef'
      have s4 : Same H3 (upd H3 t (.tup [.str fp, .ref q'])) := Same.new ht
      refine ⟨t, _, rfl, SqT.of upd_same, rfl, ?_⟩
      refine ⟨_, _, rfl, _, _, rfl, rfl, rfl, ?_⟩
      show if (!decide (fp = p)) = true then _ else _
      by_cases hk : fp = p
      · rw [decide_eq_true hk, if_neg (by decide)]
        exact k2 (by show decide (fp ≠ p) = false; simp [hk]) _ s4
      · rw [decide_eq_false hk, if_pos (by decide)]
        refine ⟨by show 2 ≤ sizeLine; decide, fun t2 ht2 => ?_⟩
        have s5 : Same H3 (upd (upd H3 t (.tup [.str fp, .ref q'])) t2 (.tup [.str fp, .ref q'])) := s4.trans (Same.new ht2)
        exact k1 (by show decide (fp ≠ p) = true; simp [hk]) _ _ s5 ⟨t2, rfl, q', upd_same, s5 _ _ (s3 _ _ (upd_oth (fun z => by subst z; rw [hq'] at h2; cases h2) hq'))⟩
    · intro H3 ys pr s3 hD3
      refine ⟨s3 _ _ upd_same, ?_⟩
      obtain ⟨ts, rfl, pr'⟩ := refsP pr
      have nDd : D ≠ d := fun z => by subst z; rw [upd_same] at hD; cases hD
      have su : Same H (upd H3 d (.dK kvs)) := Same.unlock h2 s3
      refine ⟨_, .inl ⟨SqL.of (upd_oth nDd hD3), fun t ht => ?_⟩⟩
      have s4 := su.trans (Same.new (o := .tup (ts.map V.ref)) ht)
      intro x dx' hx hdx hne
      have s5 := s4.trans (mkn_same (o1 := .own x) (o2 := .ins ad.c_Tree dx' []) hx hdx)
      have fo : FsOk (dropF fs p) := ⟨nodup_drop nd, fun f hf => hpo f ((List.mem_filter.mp hf).1), by have := length_drop (fs := fs) (p := p); omega⟩
      have nxt : t ≠ x := ne_of_none upd_same hx
      have ndt : t ≠ dx' := ne_of_none upd_same hdx
      refine ⟨x, dx', t, ts, dropF fs p, rfl, upd_same, by rw [upd_ne nxt, upd_ne ndt]; exact upd_same, ?_, fo, fun H6 b6 t6 => ⟨rfl, k x H6 (s4.trans (mk_same hx hdx b6)) t6⟩⟩
      refine prd_mono (fun t' f g => PfAt.same g ((mkn_same (o1 := .own x) (o2 := .ins ad.c_Tree dx' []) hx hdx))) (prd_mono (fun t' f g => PfAt.same g (Same.new ht)) (prd_mono (fun t' f g => ?_) pr'))
      obtain ⟨q', g1, g2⟩ := g
      exact ⟨q', upd_oth (fun z => by subst z; rw [s3 _ _ upd_same] at g1; cases g1) g1, upd_oth (fun z => by subst z; rw [s3 _ _ upd_same] at g2; cases g2) g2⟩
def FilesAt (H : Hp) (t : Addr) (fs : Fs) : Prop := ∃ ts, H t = some (.tup (ts.map V.ref)) ∧ Paired (PfAt H) ts fs
theorem ok_Tree_files (T : Txt P K mg ad) : FnOk P w K mg base CX0 1 ad.a_Tree_files ad.d_Tree_files ["self"] (fun vs H Q _ => ∃ a fs, vs = [.ref a] ∧ TrAt ad H a fs ∧ fs.length < 50 ∧ ∀ t H' gs, Same H H' → FilesAt H' t gs → gs.Perm fs → PyProof.Rows.sortedS (gs.map Prod.fst) = true → Q (.ref t) H') := by
  refine T.f_Tree_files.ok sc_Tree_files (fun vs H Q E h => ?_) (fun cdv A outer s H vs Q E hr h => ?_)
  · obtain ⟨a, fs, rfl, _⟩ := h; rfl
  · obtain ⟨a, fs, rfl, ⟨dx, d, sq, ps, h1, ⟨kvs, h2, h3⟩, h4, pm, srt, nd⟩, hl, k⟩ := h
    refine ⟨_, pss_one (ps_ret (pe_callTy (cc_tuple (K := K)) (by rfl) T.n_tuple (by decide +kernel) (pa_cons (pe_lc (own := [("path", 1)]) (g := gName 1) (by rfl) sc_Tree_files.nd  (pic_seq (K := K) (ce_fld (K := K) (cv 0) rfl)) (blkOk_by (own := [("path", 1)]) (N := N_Tree_files) (sc := defScope s_Tree_files) (by decide +kernel)) (fun _ _ _ _ _ => pg_name (i := 1) sc_Tree_files.nd rfl (by first | exact Or.inl rfl | exact Or.inr rfl)) (fun _ _ _ _ _ => pts_nil) (fun _ _ _ _ _ => pe_tup (pa_cons (cv 1) (pa_cons (pe_dget (hu_of hr) (ce_fld (K := K) (cv 0) rfl) (cv 1) (fun _ _ => rfl)) pa_nil)))) pa_nil))), ?_⟩
    refine .inr ⟨_, dx, _, _, h1, T.cl_Tree.cl, T.na_Tree_sorted_paths, lkt2, sq, rfl, ⟨_, SqT.of h4⟩, fun D hD => ?_⟩
    obtain ⟨gs, pg, eg⟩ := perm_lift pm fs rfl
    have hlg : gs.length = ps.length := by rw [← eg, List.length_map]
    refine lc_fl (walk_tup (xs := ps.map V.str)) (fun f : Str × List Str => true) (fun y f H' => ∃ t, y = .ref t ∧ PfAt H' t f) (xs := gs) (by rw [List.length_map, hlg]) (fun y f H3 H4 acc hD3 s3 ⟨t, e1, q', e2, e3⟩ => ⟨t, e1, q', s3.get (fun z => by subst z; rw [e2] at hD3; cases hD3) e2, s3.get (fun z => by subst z; rw [e3] at hD3; cases hD3) e3⟩) hD (by rw [List.length_map, pm.length_eq, List.length_map]; omega) (fun H3 s3 => SqT.of (s3 _ _ h4)) ?_ ?_
    · rintro i f x H3 H4 Nx Nz ef s3 ⟨rfl, hx⟩ k1 k2
      rw [← eg, List.map_map, List.getElem?_map, ef] at hx
      cases hx
      have hf : f ∈ fs := pg.mem_iff.mp (List.mem_of_getElem? ef)
      obtain ⟨v, hv, u, rfl, hu⟩ := h3.of_some (getF_of_mem (p := f.1) (x := f.2) nd hf)
      refine ⟨rfl, ?_⟩
      refine ⟨_, dx, _, _, s3 _ _ h1, T.cl_Tree.cl, T.na_Tree_by_path, lkt1, ?_⟩
      refine ⟨d, _, rfl, hv ▸ DGet.k (k := Sum.inr f.1) (s3 _ _ h2), ?_⟩
      refine ⟨by show 2 ≤ sizeLine; decide, fun t ht => ?_⟩
      exact k1 rfl _ _ (Same.new ht) ⟨t, rfl, u, upd_same, upd_new (s3 _ _ hu) ht⟩
    · intro H3 ys pr s3 hD3
      obtain ⟨ts, rfl, pr'⟩ := refsP pr
      rw [List.filter_eq_self.mpr (fun _ _ => rfl)] at pr'
      refine ⟨_, .inl ⟨SqL.of hD3, fun t ht => ?_⟩⟩
      exact k t _ gs (s3.trans (Same.new ht)) ⟨ts, upd_same, prd_mono (fun _ _ g => PfAt.same g (Same.new ht)) pr'⟩ pg (by rw [eg]; exact srt)
theorem ok_Tree_XeqX (T : Txt P K mg ad) : FnOk P w K mg base CX0 3 ad.a_Tree_XeqX ad.d_Tree_XeqX ["self", "other"] (spEqB (RTr ad)) := by
  refine T.f_Tree_XeqX.ok sc_Tree_XeqX (fun vs H Q E h => ?_) (fun cdv A outer s H vs Q E hr h => ?_)
  · obtain ⟨x, y, b, rfl, _⟩ := h; rfl
  · obtain ⟨x, y, b, rfl, ⟨a, c, fs, gs, rfl, rfl, h1, h2, rfl⟩, q⟩ := h
    refine ⟨_, pss_one (ps_ret (ce_and (pe_callB (cc_isi (K := K)) (by rfl) T.n_isinstance (by decide +kernel) (pa_cons (cv 1) (pa_cons (pe_glob (v := .ref ad.c_Tree) rfl T.mg_Tree rfl) pa_nil))) (pe_one (pe_cmpR (op_eqDDK (K := K) hr.u80) (ce_fld (K := K) (cv 0) rfl) (ce_fld (K := K) (cv 1) rfl) (nomark _))))), ?_⟩
    obtain ⟨dx, d, sq, ps, ha, ⟨kvs, hd, hf⟩, _⟩ := h1
    obtain ⟨dy, d', sq', ps', hb, ⟨kvs', hd', hf'⟩, _⟩ := h2
    tm_at "w"
    refine ⟨_, true, T.cl_Tree.ins hb, T.cl_Tree.kit T.su_Tree (fun _ => rfl), ?_⟩
    refine .t ?_
    refine ⟨_, dx, _, _, ha, T.cl_Tree.cl, T.na_Tree_by_path, lkt1, ?_⟩
    refine ⟨_, dy, _, _, hb, T.cl_Tree.cl, T.na_Tree_by_path, lkt1, ?_⟩
    refine ⟨d, d', kvs, kvs', fs.all (fun f => decide (getF gs f.1 = some f.2)), rfl, rfl, hd, hd', fun _ => hits_fs hf hf', ?_⟩
    rw [bne_f, hf.len, hf'.len]
    exact q _ (fun _ _ z => z)
end
end Toy

namespace Toy
open PySem L2
local macro_rules | `(tactic| tm_at "w") => `(tactic| (conv => whnf))
local macro_rules | `(tactic| tm_at "fr") => `(tactic| first | assumption | exact upd_none (by assumption) | exact upd_none (upd_none (by assumption)) | exact upd_none (upd_none (upd_none (by assumption))) | exact upd_none (upd_none (upd_none (upd_none (by assumption)))))
local macro_rules | `(tactic| tm_at "ne") => `(tactic| first | assumption | (apply Ne.symm; assumption) | exact upd_none_ne (by assumption) | exact (upd_none_ne (by assumption)).symm | exact upd_none_ne (upd_none (by assumption)) | exact (upd_none_ne (upd_none (by assumption))).symm | exact upd_none_ne (upd_none (upd_none (by assumption))) | exact (upd_none_ne (upd_none (upd_none (by assumption)))).symm)
local macro_rules | `(tactic| tm_at "heap") => `(tactic| first | assumption | exact upd_same | (refine upd_new ?_ (by tm_at "fr"); tm_at "heap") | (refine upd_oth (by tm_at "ne") ?_; tm_at "heap") | (refine SameB.get (by assumption) (by tm_at "ne") ?_; tm_at "heap") | (refine Same.get (by assumption) ?_; tm_at "heap"))
local macro_rules | `(tactic| tm_at "sq") => `(tactic| first | assumption | exact SqL.of (by tm_at "heap") | exact SqT.of (by tm_at "heap"))
local macro_rules | `(tactic| tm_at "ix") => `(tactic| (conv => whnf); first | refine ⟨_, _, .inl (by tm_at "sq"), rfl, ?_⟩ | refine ⟨_, _, .inr (by tm_at "sq"), rfl, ?_⟩)
local macro_rules | `(tactic| tm_at "sb") => `(tactic| first | assumption | exact SameB.refl | (refine SameB.ws ?_; tm_at "sb") | (refine SameB.wr ?_ (by tm_at "fr"); tm_at "sb") | (refine SameB.trans ?_ (by assumption); tm_at "sb"))
/-! applying a patch -/
theorem _root_.L2.br.fl {b : Bool} {A B : Prop} (e : b = false) (h : B) : br b A B := by subst e; exact .f h
theorem _root_.L2.br.tl {b : Bool} {A B : Prop} (e : b = true) (h : A) : br b A B := by subst e; exact .t h
/-- a hunk's lines stand at its place -/
def fitsAt (ls : List Str) (h : Hk) : Prop := 0 ≤ h.pl ∧ h.pl + h.be.length ≤ ls.length ∧ (ls.drop h.pl.toNat).take h.be.length = h.be
def Hk.hi (h : Hk) : Nat := h.pl.toNat + h.be.length
def edF (ls : List Str) : Nat → List Hk → List Str
  | e, [] => ls.drop e
  | e, h :: t => (ls.take h.pl.toNat).drop e ++ h.af ++ edF ls h.hi t
/-- the hunks stand one behind the other -/
def Asc : Nat → List Hk → Prop
  | _, [] => True
  | e, h :: t => (e : Int) ≤ h.pl ∧ Asc h.hi t
def backF (ls : List Str) : List Hk → List Str
  | [] => ls
  | h :: t => (backF ls t).take h.pl.toNat ++ h.af ++ (backF ls t).drop h.hi
theorem backF_eq {ls : List Str} : ∀ {hs : List Hk} {e : Nat}, Asc e hs → (∀ h ∈ hs, fitsAt ls h) → e ≤ ls.length → backF ls hs = ls.take e ++ edF ls e hs
  | [], e, _, _, _ => (List.take_append_drop e ls).symm
  | h :: t, e, ⟨a1, a2⟩, hf, he => by
    obtain ⟨f1, f2, f3⟩ := hf h List.mem_cons_self
    have hh : h.hi ≤ ls.length := by unfold Hk.hi; omega
    have ih := backF_eq a2 (fun g hg => hf g (List.mem_cons_of_mem _ hg)) hh
    have e1 : e ≤ h.pl.toNat := by omega
    have e2 : h.pl.toNat ≤ h.hi := by unfold Hk.hi; omega
    show (backF ls t).take _ ++ h.af ++ (backF ls t).drop _ = _
    rw [ih]
    have l1 : (ls.take h.hi).length = h.hi := by rw [List.length_take]; omega
    rw [List.take_append_of_le_length (by rw [l1]; exact e2), List.take_take, Nat.min_eq_left e2]
    rw [show (ls.take h.hi ++ edF ls h.hi t).drop h.hi = edF ls h.hi t by rw [List.drop_append_of_le_length (by rw [l1]; exact Nat.le_refl _), List.drop_of_length_le (by rw [l1]; exact Nat.le_refl _), List.nil_append]]
    show _ = ls.take e ++ ((ls.take h.pl.toNat).drop e ++ h.af ++ edF ls h.hi t)
    rw [← List.append_assoc, ← List.append_assoc]
    congr 2
    have : ls.take e = (ls.take h.pl.toNat).take e := by rw [List.take_take, Nat.min_eq_left e1]
    rw [this, List.take_append_drop]
theorem asc_firstBad {hs : List Hk} (h : Asc 0 hs) (n : hs ≠ []) (pos : ∀ g ∈ hs, 0 ≤ g.pl) : FirstBad hs none := by
  refine ⟨n, ?_⟩
  have key : ∀ (l : List Hk) (e : Nat), Asc e l → (∀ g ∈ l, 0 ≤ g.pl) → ∀ j, 1 ≤ j → j < l.length → ¬ badAt l j := by
    intro l
    induction l with
    | nil => intro e _ _ j _ h2; simp at h2
    | cons a t ih =>
      intro e ha hp j h1 h2 hb
      obtain ⟨h, g, e1, e2, e3⟩ := hb
      by_cases hj : j = 1
      · subst hj
        cases t with
        | nil => simp at e1
        | cons b u =>
          simp at e1 e2
          subst e1 e2
          have := ha.2.1
          unfold Hk.hi at this
          have := hp a List.mem_cons_self
          omega
      · refine ih _ ha.2 (fun g hg => hp g (List.mem_cons_of_mem _ hg)) (j - 1) (by omega) (by rw [List.length_cons] at h2; omega) ⟨h, g, ?_, ?_, e3⟩
        · obtain ⟨m, rfl⟩ : ∃ m, j = m + 1 := ⟨j - 1, by omega⟩
          simpa using e1
        · obtain ⟨m, rfl⟩ : ∃ m, j = m + 2 := ⟨j - 2, by omega⟩
          simpa using e2
  exact key hs 0 h pos
/-- the change c is exact in fs -/
def ExC (fs : Fs) : Ch → Prop
  | .base _ => False
  | .create p _ => getF fs p = none
  | .remove p ls => getF fs p = some ls
  | .edit p hs => ∃ ls, getF fs p = some ls ∧ (∀ h ∈ hs, fitsAt ls h) ∧ Asc 0 hs
def appC (fs : Fs) : Ch → Fs
  | .base _ => fs
  | .create p ls => putF' fs p ls
  | .remove p _ => dropF fs p
  | .edit p hs => putF' fs p (edF ((getF fs p).getD []) 0 hs)
def appP (fs : Fs) (cs : List Ch) : Fs := cs.foldl appC fs
/-- one after the other -/
def ExP (fs : Fs) : List Ch → Prop
  | [] => True
  | c :: t => ExC fs c ∧ ExP (appC fs c) t
theorem getF_app_other {fs : Fs} {c : Ch} {q : Str} (h : q ≠ c.path) : getF (appC fs c) q = getF fs q := by
  cases c with
  | base p => rfl
  | edit p hs => exact (getF_put).trans (if_neg h)
  | create p ls => exact (getF_put).trans (if_neg h)
  | remove p ls => exact (getF_drop).trans (if_neg h)
theorem ExC.other {fs gs : Fs} {c : Ch} (h : ExC fs c) (e : getF gs c.path = getF fs c.path) : ExC gs c := by
  cases c with
  | base p => exact h
  | edit p hs => obtain ⟨ls, h1, h2⟩ := h; exact ⟨ls, e.trans h1, h2⟩
  | create p ls => exact e.trans h
  | remove p ls => exact e.trans h
theorem exP_of : ∀ {cs : List Ch} {fs : Fs}, (cs.map Ch.path).Nodup → (∀ c ∈ cs, ExC fs c) → ExP fs cs
  | [], _, _, _ => trivial
  | c :: t, fs, nd, h => by
    rw [List.map_cons, List.nodup_cons] at nd
    refine ⟨h c List.mem_cons_self, exP_of nd.2 fun d hd => (h d (List.mem_cons_of_mem _ hd)).other (getF_app_other fun z => nd.1 (z ▸ List.mem_map_of_mem hd))⟩
theorem fsOk_app {fs : Fs} {c : Ch} (h : FsOk fs) (hp : PathOk c.path) (hl : fs.length < 49) : FsOk (appC fs c) := by
  obtain ⟨h1, h2, h3⟩ := h
  have put : ∀ ls, c.path = c.path → FsOk (putF' fs c.path ls) := fun ls _ => ⟨nodup_put h1, fun f hf => by
    rcases mem_put hf with e | e
    · subst e; exact hp
    · exact h2 f e, by have := length_put (fs := fs) (p := c.path) (x := ls); omega⟩
  cases c with
  | base p => exact ⟨h1, h2, h3⟩
  | edit p hs => exact put _ rfl
  | create p ls => exact put _ rfl
  | remove p ls => exact ⟨nodup_drop h1, fun f hf => h2 f (List.mem_filter.mp hf).1, by have := length_drop (fs := fs) (p := p); exact Nat.lt_of_le_of_lt this h3⟩
theorem len_app {fs : Fs} {c : Ch} : (appC fs c).length ≤ fs.length + 1 := by
  cases c with
  | base p => exact Nat.le_succ _
  | edit p hs => exact length_put
  | create p ls => exact length_put
  | remove p ls => exact Nat.le_succ_of_le length_drop
theorem cutV_mid (xs : List V) {a b : Nat} (h : a ≤ b) (hb : b ≤ xs.length) : cutV xs (some (a : Int)) (some (b : Int)) = (xs.drop a).take (b - a) := by
  unfold cutV
  rw [HT.sIx_nat, HT.sIx_nat, Nat.min_eq_left (by omega : a ≤ xs.length), Nat.min_eq_left hb]
theorem cutV_rest (xs : List V) (j : Nat) : cutV xs (some (j : Int)) none = xs.drop j := by
  unfold cutV
  rw [HT.sIx_none, HT.sIx_nat]
  by_cases h : j ≤ xs.length
  · rw [Nat.min_eq_left h, List.take_of_length_le (by rw [List.length_drop]; exact Nat.le_refl _)]
  · rw [Nat.min_eq_right (by omega), Nat.sub_self, List.take_zero, List.drop_of_length_le (by omega)]
theorem dStrs {K : PySem.W.Frag} {H : Hp} {p q : Addr} {xs ys : List Str} (hp : SqT K H p (xs.map V.str)) (hq : SqT K H q (ys.map V.str)) : DTp K DFl (.ref p) (.ref q) H (decide (xs = ys)) := by
  refine ⟨p, q, _, _, fun i => decide (xs[i]? = ys[i]?), rfl, rfl, hp, hq, fun i u v hu hv => ?_, ?_⟩
  · rw [List.getElem?_map] at hu hv
    obtain ⟨a, ea, rfl⟩ := Option.map_eq_some_iff.mp hu
    obtain ⟨b, eb, rfl⟩ := Option.map_eq_some_iff.mp hv
    refine ⟨rfl, rfl, ?_⟩
    show decide (xs[i]? = ys[i]?) = (a == b)
    rw [ea, eb]
    by_cases z : a = b <;> simp [z]
  · rw [List.length_map, List.length_map, all_eq]
theorem fits_cut {ls : List Str} {h : Hk} (f : fitsAt ls h) : cutV (ls.map V.str) (some h.pl) (some (h.pl + h.be.length)) = h.be.map V.str := by
  obtain ⟨f1, f2, f3⟩ := f
  obtain ⟨n, hn⟩ := Int.eq_ofNat_of_zero_le f1
  rw [hn] at f2 f3 ⊢
  rw [← Int.natCast_add, cutV_mid _ (by omega) (by rw [List.length_map]; omega), ← List.map_drop, ← List.map_take, Nat.add_sub_cancel_left]
  rw [show ((n : Int)).toNat = n from rfl] at f3
  rw [f3]
/-- first_wrong(lines, hunks) of hunks that all fit -/
def spFw (K : PySem.W.Frag) (ad : Ad) : Sp := fun vs H Q _ => ∃ (p q : Addr) (ls : List Str) (as : List Addr) (hs : List Hk), vs = [.ref p, .ref q] ∧ H p = some (.tup (ls.map V.str)) ∧ H q = some (.tup (as.map V.ref)) ∧ HksAt K ad H as hs ∧ ls.length ≤ 10 ^ 6 ∧ (∀ h ∈ hs, fitsAt ls h) ∧
  ∀ H', Same H H' → Q .non H'
def spEd (K : PySem.W.Frag) (ad : Ad) : Sp := fun vs H Q _ => ∃ (p q : Addr) (ls : List Str) (as : List Addr) (hs : List Hk), vs = [.ref p, .ref q] ∧ H p = some (.tup (ls.map V.str)) ∧ H q = some (.tup (as.map V.ref)) ∧ HksAt K ad H as hs ∧ ls.length ≤ 10 ^ 6 ∧ (∀ h ∈ hs, fitsAt ls h) ∧ Asc 0 hs ∧ hs.length ≤ 1000 ∧ (∀ h ∈ hs, h.af.length ≤ 1000) ∧
  ∀ t H', Same H H' → H' t = some (.tup ((edF ls 0 hs).map V.str)) → Q (.ref t) H'
section
variable {P : Program} {w : World} {K : PySem.W.Frag} {mg : Str → Option Value} {base : Heap} {ad : Ad}
theorem ok_first_wrong (T : Txt P K mg ad) : FnOk P w K mg base CX0 4 ad.a_first_wrong ad.d_first_wrong ["lines", "hunks"] (spFw K ad) := by
  refine T.f_first_wrong.ok sc_first_wrong (fun vs H Q E h => ?_) (fun cdv A outer s H vs Q E hr h => ?_)
  · obtain ⟨p, q, ls, as, hs, rfl, _⟩ := h; rfl
  · obtain ⟨p, q, ls, as, hs, rfl, hp, hq, ha, hl, hf, k⟩ := h
    refine ⟨_, pss_cons (ps_for PassesOwn.never rfl (pi_enumTK (by rfl) T.n_enumerate (pa_cons (cv 1) pa_nil)) (pg_tup rfl (pgs_cons (pg_name (i := 2) sc_first_wrong.nd rfl (by first | exact Or.inl rfl | exact Or.inr rfl)) (pgs_cons (pg_name (i := 3) sc_first_wrong.nd rfl (by first | exact Or.inl rfl | exact Or.inr rfl)) pgs_nil)))
        (pss_one (cs_if (PW.pt (cw_or (ct_cmp oc_gt (pe_meth0 (cv 3) T.cl_Hunk.cl T.me_Hunk_end (ok_Hunk_end T) (hr.mono (by decide)) T.b_Hunk_end .nil pass0) (pe_callB (cc_len (K := K)) (by rfl) T.n_len (by decide +kernel) (pa_cons (cv 0) pa_nil)) (nomark _)) (pw_or1 (ct_cmp (op_cmpB (ne := true) (rcB_tup (D := DFl) monB_flat eqB_flat) (hr.mono (by decide))) (pe_slice sc_T (cv 0) (poc (ce_fld (K := K) (cv 3) rfl)) (poc (pe_meth0 (cv 3) T.cl_Hunk.cl T.me_Hunk_end (ok_Hunk_end T) (hr.mono (by decide)) T.b_Hunk_end .nil pass0))) (ce_fld (K := K) (cv 3) rfl) (nomark _)))))
          (pss_one (ps_ret (cv 2)))
          pss_nil)))
      (pss_one (ps_ret pe_non)), ?_⟩
    refine ⟨q, _, rfl, SqT.of hq, ?_⟩
    refine for_it walk_enumT (fun i σ H' => ∃ u v, σ = [some (.ref p), some (.ref q), u, v] ∧ Same H H') ⟨_, _, rfl, Same.refl _⟩ (fun i σ H' _ ⟨u, v, _, s1⟩ => SqT.of (s1 _ _ hq)) ?_ ?_
    · rintro i x σ H1 H2 hi ⟨u, v, rfl, s1⟩ ⟨t, ix, hx, rfl, ht, rfl, e1, e2⟩
      have e2' : (as.map V.ref)[i]? = some hx := e2
      rw [List.getElem?_map] at e2'
      obtain ⟨a, ea, rfl⟩ := Option.map_eq_some_iff.mp e2'
      obtain ⟨h, eh, hk⟩ := prd_get ha ea
      have hfit := hf h (List.mem_of_getElem? eh)
      have s2 : Same H (upd H1 t (.tup [ix, .ref a])) := s1.trans (Same.new ht)
      have hk2 := hk.same s2
      have hp2 := s2 _ _ hp
      refine ⟨t, _, rfl, SqT.of upd_same, rfl, ?_⟩
      refine ⟨_, _, rfl, _, _, rfl, rfl, ?_⟩
      generalize upd H1 t (HO.tup [ix, .ref a]) = G at s2 hk2 hp2 ⊢
      obtain ⟨dx, b1, c1, k1, k2, k3⟩ := id hk2
      obtain ⟨f1, f2, f3⟩ := id hfit
      refine ⟨a, dx, _, rfl, k1, lk_end, a, _, rfl, hk2, ?_⟩
      refine ⟨_, .inr (SqT.of hp2), ?_⟩
      rw [List.length_map]
      refine .fl (decide_eq_false (show ¬ ((ls.length : Int) < h.pl + h.be.length) by omega)) ?_
      refine ⟨_, dx, _, _, k1, T.cl_Hunk.cl, T.na_Hunk_at, lk_at, ?_⟩
      refine ⟨a, dx, _, rfl, k1, lk_end, a, _, rfl, hk2, ?_⟩
      refine ⟨p, _, rfl, hp2, fun c Gc sc hc => ?_⟩
      rw [fits_cut hfit] at hc
      refine ⟨_, dx, _, _, sc _ _ k1, T.cl_Hunk.cl, T.na_Hunk_before, lk_be, ?_⟩
      refine ⟨_, dStrs (SqT.of hc) (SqT.of (sc _ _ k2)), fun G3 e3 => ?_⟩
      refine .fl (by rw [decide_eq_true rfl]; rfl) ?_
      exact ⟨_, _, rfl, s2.trans (sc.trans e3)⟩
    · rintro σ H1 ⟨u, v, rfl, s1⟩
      exact k H1 s1
theorem edF_len {ls : List Str} : ∀ {hs : List Hk} {e : Nat}, Asc e hs → (∀ h ∈ hs, fitsAt ls h) → e ≤ ls.length → (∀ h ∈ hs, h.af.length ≤ 1000) → (edF ls e hs).length ≤ (ls.length - e) + hs.length * 1000
  | [], e, _, _, _, _ => by show (ls.drop e).length ≤ _; rw [List.length_drop]; omega
  | h :: t, e, ⟨a1, a2⟩, hf, he, hl => by
    obtain ⟨f1, f2, f3⟩ := hf h List.mem_cons_self
    have hh : h.hi ≤ ls.length := by unfold Hk.hi; omega
    have ih := edF_len a2 (fun g hg => hf g (List.mem_cons_of_mem _ hg)) hh fun g hg => hl g (List.mem_cons_of_mem _ hg)
    have := hl h List.mem_cons_self
    show (((ls.take h.pl.toNat).drop e ++ h.af) ++ edF ls h.hi t).length ≤ _
    rw [List.length_append, List.length_append, List.length_drop, List.length_take, List.length_cons]
    unfold Hk.hi at *
    omega
theorem edF_drop {ls : List Str} : ∀ {hs : List Hk} {e i : Nat} {h : Hk}, hs[i]? = some h → edF ls ((hs.take i).foldl (fun _ g => g.hi) e) (hs.drop i) = (ls.take h.pl.toNat).drop ((hs.take i).foldl (fun _ g => g.hi) e) ++ h.af ++ edF ls h.hi (hs.drop (i + 1)) := by
  intro hs e i h hi
  obtain ⟨hl, he⟩ := List.getElem?_eq_some_iff.mp hi
  rw [List.drop_eq_getElem_cons hl, he]; rfl
theorem asc_at : ∀ {hs : List Hk} {e i : Nat} {h : Hk}, Asc e hs → hs[i]? = some h → (((hs.take i).foldl (fun _ g => g.hi) e : Nat) : Int) ≤ h.pl
  | a :: t, e, 0, h, ha, hi => by
    simp at hi
    subst hi
    exact ha.1
  | a :: t, e, i + 1, h, ha, hi => by
    rw [List.take_succ_cons, List.foldl_cons]
    exact asc_at ha.2 (by simpa using hi)
theorem ok_edited (T : Txt P K mg ad) : FnOk P w K mg base CX0 4 ad.a_edited ad.d_edited ["lines", "hunks"] (spEd K ad) := by
  refine T.f_edited.ok sc_edited (fun vs H Q E h => ?_) (fun cdv A outer s H vs Q E hr h => ?_)
  · obtain ⟨p, q, ls, as, hs, rfl, _⟩ := h; rfl
  · obtain ⟨p, q, ls, as, hs, rfl, hp, hq, ha, hl, hf, hasc, hn, haf, k⟩ := h
    refine ⟨_, pss_cons (ps_set (i := 2) sc_edited.nd rfl (by first | exact Or.inl rfl | exact Or.inr rfl) (pe_lst pa_nil))
      (pss_cons (ps_set (i := 3) sc_edited.nd rfl (by first | exact Or.inl rfl | exact Or.inr rfl) pe_int)
      (pss_cons (ps_for PassesOwn.never rfl (pic_seq (K := K) (cv 1)) (pg_name (i := 4) sc_edited.nd rfl (by first | exact Or.inl rfl | exact Or.inr rfl))
        (pss_cons (ps_expr (pe_bm PySem.F.plainAttrs_list PySem.F.slot_list_extend PySem.F.type_list_extend ((mc_extB (K := K))) (cv 2) (pa_cons (pe_slice sc_T (cv 0) (poc (cv 3)) (poc (ce_fld (K := K) (cv 4) rfl))) pa_nil)))
        (pss_cons (ps_expr (pe_bm PySem.F.plainAttrs_list PySem.F.slot_list_extend PySem.F.type_list_extend ((mc_extB (K := K))) (cv 2) (pa_cons (ce_fld (K := K) (cv 4) rfl) pa_nil)))
        (pss_one (ps_set (i := 3) sc_edited.nd rfl (by first | exact Or.inl rfl | exact Or.inr rfl) (pe_meth0 (cv 4) T.cl_Hunk.cl T.me_Hunk_end (ok_Hunk_end T) (hr.mono (by decide)) T.b_Hunk_end .nil pass0))))))
      (pss_cons (ps_expr (pe_bm PySem.F.plainAttrs_list PySem.F.slot_list_extend PySem.F.type_list_extend ((mc_extB (K := K))) (cv 2) (pa_cons (pe_slice sc_T (cv 0) (poc (cv 3)) po_none) pa_nil)))
      (pss_one (ps_ret (pe_callTy (cc_tuple (K := K)) (by rfl) T.n_tuple (by decide +kernel) (pa_cons (cv 2) pa_nil))))))), ?_⟩
    refine ⟨Nat.zero_le _, fun f hfn => ?_⟩
    have hlen : as.length = hs.length := prd_len ha
    have nqf : q ≠ f := ne_of_none hq hfn
    have npf : p ≠ f := ne_of_none hp hfn
    have big : (edF ls 0 hs).length ≤ 2 * 10 ^ 6 := by
      have := edF_len (ls := ls) (e := 0) hasc hf (Nat.zero_le _) haf
      omega
    refine .inr ⟨q, rfl, ⟨_, SqT.of (upd_new hq hfn)⟩, ?_⟩
    refine for_tup (K := K) (a := q) (xs := as.map V.ref) (fun i σ H' => ∃ (u : Option V) (fd : List Str), σ = [some (.ref p), some (.ref q), some (.ref f), some (.int (((hs.take i).foldl (fun _ g => g.hi) 0 : Nat) : Int)), u] ∧ SameB f H H' ∧ H' f = some (.lst (fd.map V.str)) ∧ fd ++ edF ls ((hs.take i).foldl (fun _ g => g.hi) 0) (hs.drop i) = edF ls 0 hs)
      ⟨none, [], rfl, SameB.new hfn, upd_same, rfl⟩ (fun i σ H' _ ⟨u, fd, _, s1, _⟩ => SqT.of (s1.get nqf hq)) ?_ ?_
    · rintro i x σ H1 hx ⟨u, fd, rfl, s1, hfd, hinv⟩
      rw [List.getElem?_map] at hx
      obtain ⟨a, ea, rfl⟩ := Option.map_eq_some_iff.mp hx
      obtain ⟨h, eh, hk⟩ := prd_get ha ea
      obtain ⟨f1, f2, f3⟩ := hf h (List.mem_of_getElem? eh)
      have has := asc_at hasc eh
      have hinv' := hinv
      rw [edF_drop eh] at hinv
      generalize hE : (hs.take i).foldl (fun _ g => g.hi) 0 = e at *
      obtain ⟨dx, b1, c1, k1, k2, k3⟩ := id hk
      have kk1 : H1 a = some _ := s1.get (ne_of_none k1 hfn) k1
      have kk3 : H1 c1 = some _ := s1.get (ne_of_none k3 hfn) k3
      have hp1 : H1 p = some _ := s1.get npf hp
      have hb := big
      rw [← hinv] at hb
      simp only [List.length_append] at hb
      have nfa : a ≠ f := ne_of_none k1 hfn
      have nfc : c1 ≠ f := ne_of_none k3 hfn
      refine ⟨.inl ⟨rfl, _, SqL.of hfd⟩, ?_⟩
      refine ⟨_, dx, _, _, kk1, T.cl_Hunk.cl, T.na_Hunk_at, lk_at, ?_⟩
      refine ⟨p, _, rfl, hp1, fun c Gc sc hc => ?_⟩
      have ec : cutV (ls.map V.str) (some (e : Int)) (some h.pl) = ((ls.take h.pl.toNat).drop e).map V.str := by
        obtain ⟨n, hn'⟩ := Int.eq_ofNat_of_zero_le f1
        rw [hn'] at has f2 ⊢
        rw [cutV_mid _ (by omega) (by rw [List.length_map]; omega), ← List.map_drop, ← List.map_take, List.drop_take]; rfl
      rw [ec] at hc
      refine ⟨_, _, sc _ _ hfd, .inr hc, by rw [List.length_map, List.length_map, sizeLine_eq]; omega, ?_⟩
      rw [← List.map_append]
      refine ⟨.inl ⟨rfl, _, SqL.of upd_same⟩, ?_⟩
      refine ⟨_, dx, _, _, upd_oth nfa (sc _ _ kk1), T.cl_Hunk.cl, T.na_Hunk_after, lk_af, ?_⟩
      refine ⟨_, _, upd_same, .inr (upd_oth nfc (sc _ _ kk3)), by rw [List.length_map, List.length_map, List.length_append, sizeLine_eq]; omega, ?_⟩
      rw [← List.map_append]
      have b3 : SameB f H (upd (upd Gc f (.lst ((fd ++ (ls.take h.pl.toNat).drop e).map V.str))) f (.lst ((fd ++ (ls.take h.pl.toNat).drop e ++ h.af).map V.str))) := ((s1.trans (SameB.of sc)).ws).ws
      have hk3 : HkAt K ad (upd (upd Gc f (.lst ((fd ++ (ls.take h.pl.toNat).drop e).map V.str))) f (.lst ((fd ++ (ls.take h.pl.toNat).drop e ++ h.af).map V.str))) a h := ⟨dx, b1, c1, b3.get nfa k1, b3.get (ne_of_none k2 hfn) k2, b3.get nfc k3⟩
      refine ⟨a, dx, _, rfl, b3.get nfa k1, lk_end, a, _, rfl, hk3, ?_⟩
      refine ⟨some (.ref a), fd ++ (ls.take h.pl.toNat).drop e ++ h.af, ?_, b3, upd_same, ?_⟩
      · rw [take_snoc eh, List.foldl_append]
        show _ = [some (V.ref p), some (V.ref q), some (V.ref f), some (V.int ((h.hi : Nat) : Int)), some (.ref a)]
        rw [show ((h.hi : Nat) : Int) = h.pl + h.be.length by unfold Hk.hi; omega]
        rfl
      · rw [take_snoc eh, List.foldl_append]
        show _ ++ edF ls h.hi _ = _
        rw [← hinv, List.append_assoc, List.append_assoc, List.append_assoc]
    · rintro σ H1 ⟨u, fd, rfl, s1, hfd, hinv⟩
      rw [List.length_map, hlen, List.take_length, List.drop_length] at hinv
      rw [List.length_map, hlen, List.take_length]
      generalize hE : hs.foldl (fun _ g => g.hi) 0 = e at *
      have hb := big
      rw [← hinv] at hb
      simp only [List.length_append] at hb
      refine ⟨.inl ⟨rfl, _, SqL.of hfd⟩, ?_⟩
      refine ⟨p, _, rfl, s1.get npf hp, fun c Gc sc hc => ?_⟩
      rw [cutV_rest, ← List.map_drop] at hc
      refine ⟨_, _, sc _ _ hfd, .inr hc, by rw [List.length_map, List.length_map, sizeLine_eq]; show fd.length + (ls.drop e).length ≤ _; have : (edF ls e []).length = (ls.drop e).length := rfl; omega, ?_⟩
      rw [← List.map_append]
      refine ⟨_, .inl ⟨SqL.of upd_same, fun t ht => ?_⟩⟩
      rw [show fd ++ ls.drop e = edF ls 0 hs from hinv]
      refine k t _ (fun b o hb => ?_) upd_same
      have n1 : b ≠ f := ne_of_none hb hfn
      rw [upd_ne (ne_of_none (upd_oth n1 (sc _ _ (s1.get n1 hb))) ht), upd_ne n1]
      exact sc _ _ (s1.get n1 hb)
end
end Toy

namespace Toy
open PySem L2
local macro_rules | `(tactic| tm_at "w") => `(tactic| (conv => whnf))
local macro_rules | `(tactic| tm_at "fr") => `(tactic| first | assumption | exact upd_none (by assumption) | exact upd_none (upd_none (by assumption)) | exact upd_none (upd_none (upd_none (by assumption))) | exact upd_none (upd_none (upd_none (upd_none (by assumption)))))
local macro_rules | `(tactic| tm_at "ne") => `(tactic| first | assumption | (apply Ne.symm; assumption) | exact upd_none_ne (by assumption) | exact (upd_none_ne (by assumption)).symm | exact upd_none_ne (upd_none (by assumption)) | exact (upd_none_ne (upd_none (by assumption))).symm | exact upd_none_ne (upd_none (upd_none (by assumption))) | exact (upd_none_ne (upd_none (upd_none (by assumption)))).symm)
local macro_rules | `(tactic| tm_at "heap") => `(tactic| first | assumption | exact upd_same | (refine upd_new ?_ (by tm_at "fr"); tm_at "heap") | (refine upd_oth (by tm_at "ne") ?_; tm_at "heap") | (refine SameB.get (by assumption) (by tm_at "ne") ?_; tm_at "heap") | (refine Same.get (by assumption) ?_; tm_at "heap"))
local macro_rules | `(tactic| tm_at "sq") => `(tactic| first | assumption | exact SqL.of (by tm_at "heap") | exact SqT.of (by tm_at "heap"))
local macro_rules | `(tactic| tm_at "ix") => `(tactic| (conv => whnf); first | refine ⟨_, _, .inl (by tm_at "sq"), rfl, ?_⟩ | refine ⟨_, _, .inr (by tm_at "sq"), rfl, ?_⟩)
local macro_rules | `(tactic| tm_at "sb") => `(tactic| first | assumption | exact SameB.refl | (refine SameB.ws ?_; tm_at "sb") | (refine SameB.wr ?_ (by tm_at "fr"); tm_at "sb") | (refine SameB.trans ?_ (by assumption); tm_at "sb"))
/-! applied, apply_patch -/
def Bnd : Ch → Prop
  | .edit _ hs => hs.length ≤ 1000 ∧ ∀ h ∈ hs, h.af.length ≤ 1000
  | _ => True
/-- what is wanted of a change ahead of applying it -/
def Ahd (fs : Fs) (c : Ch) : Prop := ExC fs c ∧ Bnd c ∧ (∀ ls, getF fs c.path = some ls → ls.length ≤ 10 ^ 6) ∧ FsOk fs ∧ fs.length < 49 ∧ PathOk c.path
def Goes : Fs → List Ch → Prop
  | _, [] => True
  | fs, c :: t => Ahd fs c ∧ Goes (appC fs c) t
theorem goes_of : ∀ {cs : List Ch} {fs : Fs}, (cs.map Ch.path).Nodup → (∀ c ∈ cs, ExC fs c ∧ Bnd c ∧ PathOk c.path) → (∀ c ∈ cs, ∀ ls, getF fs c.path = some ls → ls.length ≤ 10 ^ 6) → FsOk fs → fs.length + cs.length < 49 → Goes fs cs
  | [], _, _, _, _, _, _ => trivial
  | c :: t, fs, nd, h, hb, ho, hl => by
    rw [List.map_cons, List.nodup_cons] at nd
    rw [List.length_cons] at hl
    obtain ⟨h1, h2, h3⟩ := h c List.mem_cons_self
    have oth : ∀ d ∈ t, getF (appC fs c) d.path = getF fs d.path := fun d hd => getF_app_other fun z => nd.1 (z ▸ List.mem_map_of_mem hd)
    have := len_app (fs := fs) (c := c)
    refine ⟨⟨h1, h2, hb c List.mem_cons_self, ho, by omega, h3⟩, goes_of nd.2 (fun d hd => ?_) (fun d hd ls e => ?_) (fsOk_app ho h3 (by omega)) (by omega)⟩
    · obtain ⟨g1, g2⟩ := h d (List.mem_cons_of_mem _ hd)
      exact ⟨g1.other (oth d hd), g2⟩
    · exact hb d (List.mem_cons_of_mem _ hd) ls (by rw [← oth d hd]; exact e)
def spApd (K : PySem.W.Frag) (ad : Ad) : Sp := fun vs H Q _ => ∃ (a c : Addr) (fs : Fs) (o : Ch), vs = [.ref a, .ref c] ∧ TrAt ad H a fs ∧ ChAt K ad H c o ∧ Ahd fs o ∧ ∀ x H', Same H H' → TrAt ad H' x (appC fs o) → Q (.ref x) H'
def spApp (K : PySem.W.Frag) (ad : Ad) : Sp := fun vs H Q _ => ∃ (a p : Addr) (fs : Fs) (o : Pt), vs = [.ref a, .ref p] ∧ TrAt ad H a fs ∧ PtAt K ad H p o ∧ Goes fs o.chs ∧ ∀ x H', Same H H' → TrAt ad H' x (appP fs o.chs) → Q (.ref x) H'
theorem lk_li {x y : V} : ([(("path" : Str), x), ("lines", y)] : List (Str × V)).lookup ("lines" : Str) = some y := by rw [List.lookup_cons, li_pa, List.lookup_cons, beq_self_eq_true]
theorem lk_hu {x y : V} : ([(("path" : Str), x), ("hunks", y)] : List (Str × V)).lookup ("hunks" : Str) = some y := by rw [List.lookup_cons, hu_pa, List.lookup_cons, beq_self_eq_true]
theorem fo_by : ("found" : Str) ≠ "by_path" := by decide +kernel
theorem fo_so : ("found" : Str) ≠ "sorted_paths" := by decide +kernel
theorem pu_by : ("put" : Str) ≠ "by_path" := by decide +kernel
theorem pu_so : ("put" : Str) ≠ "sorted_paths" := by decide +kernel
theorem dr_by : ("drop" : Str) ≠ "by_path" := by decide +kernel
theorem dr_so : ("drop" : Str) ≠ "sorted_paths" := by decide +kernel
section
variable {P : Program} {w : World} {K : PySem.W.Frag} {mg : Str → Option Value} {base : Heap} {ad : Ad}
theorem ok_applied (T : Txt P K mg ad) : FnOk P w K mg base CX0 6 ad.a_applied ad.d_applied ["tree", "change"] (spApd K ad) := by
  refine T.f_applied.ok sc_applied (fun vs H Q E h => ?_) (fun cdv A outer s H vs Q E hr h => ?_)
  · obtain ⟨a, c, fs, o, rfl, _⟩ := h; rfl
  · obtain ⟨a, c, fs, o, rfl, ht, hc, ⟨h1, h2, h3, h4, h5, h6⟩, k⟩ := h
    refine ⟨_, pss_cons (ps_set (i := 2) sc_applied.nd rfl (by first | exact Or.inl rfl | exact Or.inr rfl) (ce_fld (K := K) (cv 1) rfl))
      (pss_cons (ps_set (i := 3) sc_applied.nd rfl (by first | exact Or.inl rfl | exact Or.inr rfl) (pe_meth (cv 0) T.cl_Tree.cl T.me_Tree_found (ok_Tree_found T) (hr.mono (by decide)) T.b_Tree_found .nil pass0 (pa_cons (cv 2) pa_nil)))
      (pss_cons (cs_if (ct_val (pe_callB (cc_isi (K := K)) (by rfl) T.n_isinstance (by decide +kernel) (pa_cons (cv 1) (pa_cons (pe_glob (v := .ref ad.c_Create) rfl T.mg_Create rfl) pa_nil))))
        (pss_cons (cs_if (ct_cmp op_notN (cv 3) pe_non (nomark _))
          (pss_one ps_dead)
          pss_nil)
        (pss_one (ps_ret (pe_meth (cv 0) T.cl_Tree.cl T.me_Tree_put (ok_Tree_put T) (hr.mono (by decide)) T.b_Tree_put .nil pass0 (pa_cons (cv 2) (pa_cons (ce_fld (K := K) (cv 1) rfl) pa_nil))))))
        pss_nil)
      (pss_cons (cs_if (ct_cmp op_isN (cv 3) pe_non (nomark _))
        (pss_one ps_dead)
        pss_nil)
      (pss_cons (cs_if (ct_val (pe_callB (cc_isi (K := K)) (by rfl) T.n_isinstance (by decide +kernel) (pa_cons (cv 1) (pa_cons (pe_glob (v := .ref ad.c_Remove) rfl T.mg_Remove rfl) pa_nil))))
        (pss_cons (cs_if (ct_cmp (op_cmpB (ne := true) (rcB_tup (D := DFl) monB_flat eqB_flat) (hr.mono (by decide))) (cv 3) (ce_fld (K := K) (cv 1) rfl) (nomark _))
          (pss_one ps_dead)
          pss_nil)
        (pss_one (ps_ret (pe_meth (cv 0) T.cl_Tree.cl T.me_Tree_drop (ok_Tree_drop T) (hr.mono (by decide)) T.b_Tree_drop .nil pass0 (pa_cons (cv 2) pa_nil)))))
        pss_nil)
      (pss_cons (ps_set (i := 4) sc_applied.nd rfl (by first | exact Or.inl rfl | exact Or.inr rfl) (pe_call (ok_first_wrong T) (hr.mono (by decide)) rfl T.m_first_wrong T.k_first_wrong T.b_first_wrong .nil pass0 (pa_cons (cv 3) (pa_cons (ce_fld (K := K) (cv 1) rfl) pa_nil))))
      (pss_cons (cs_if (ct_cmp op_notN (cv 4) pe_non (nomark _))
        (pss_one ps_dead)
        pss_nil)
      (pss_one (ps_ret (pe_meth (cv 0) T.cl_Tree.cl T.me_Tree_put (ok_Tree_put T) (hr.mono (by decide)) T.b_Tree_put .nil pass0 (pa_cons (cv 2) (pa_cons (pe_call (ok_edited T) (hr.mono (by decide)) rfl T.m_edited T.k_edited T.b_edited .nil pass0 (pa_cons (cv 3) (pa_cons (ce_fld (K := K) (cv 1) rfl) pa_nil))) pa_nil))))))))))), ?_⟩
    obtain ⟨dc, fc, ec, lc, _⟩ := hc.ins
    obtain ⟨dx, d, sq, ps, ea, _⟩ := id ht
    refine ⟨_, dc, _, _, ec, (chcl T o).cl, chpa T o, lc, ?_⟩
    refine ⟨a, dx, _, rfl, ea, lkt_no fo_by fo_so, ?_⟩
    cases o with
    | base p => exact h1.elim
    | create p ls =>
      have e : getF fs p = none := h1
      refine ⟨a, p, fs, rfl, ht, fun _ => ?_, fun ls' q' e' => by rw [e] at e'; cases e'⟩
      tm_at "w"
      refine ⟨_, true, T.cl_Create.ins ec, T.cl_Create.kit T.sc_Create (fun _ => rfl), ?_⟩
      refine .t ?_
      refine ⟨rfl, .fl (by simp) ?_⟩
      obtain ⟨dc', q', ec', hq'⟩ := hc
      refine ⟨a, dx, _, rfl, ea, lkt_no pu_by pu_so, ?_⟩
      refine ⟨_, dc', _, _, ec', T.cl_Create.cl, T.na_Create_lines, lk_li, ?_⟩
      exact ⟨a, p, q', fs, ls, rfl, ht, hq', h4, h6, h5, k⟩
    | remove p ls =>
      have e : getF fs p = some ls := h1
      refine ⟨a, p, fs, rfl, ht, fun e' => (by rw [e] at e'; cases e'), fun ls' q0 e' hq0 => ?_⟩
      rw [e] at e'
      cases e'
      tm_at "w"
      refine ⟨_, false, T.cl_Remove.ins ec, T.cl_Create.kit T.sc_Remove (fun h => absurd (Value.ref.inj h).symm T.nqCR), ?_⟩
      refine .f ?_
      refine ⟨rfl, .fl (by simp) ?_⟩
      refine ⟨_, true, T.cl_Remove.ins ec, T.cl_Remove.kit T.sr_Remove (fun _ => rfl), ?_⟩
      refine .t ?_
      obtain ⟨dc', q', ec', hq'⟩ := hc
      refine ⟨_, dc', _, _, ec', T.cl_Remove.cl, T.na_Remove_lines, lk_li, ?_⟩
      refine ⟨_, dStrs (SqT.of hq0) (SqT.of hq'), fun G3 e3 => ?_⟩
      refine .fl (by rw [decide_eq_true rfl]; rfl) ?_
      refine ⟨a, dx, _, rfl, e3 _ _ ea, lkt_no dr_by dr_so, ?_⟩
      exact ⟨a, p, fs, ls, rfl, ht.same e3, h4, e, fun x H' s' t' => k x H' (Same.trans e3 s') t'⟩
    | edit p hs =>
      obtain ⟨ls, e, hf, hasc⟩ := h1
      have e : getF fs p = some ls := e
      have hl : ls.length ≤ 10 ^ 6 := h3 ls e
      refine ⟨a, p, fs, rfl, ht, fun e' => (by rw [e] at e'; cases e'), fun ls' q0 e' hq0 => ?_⟩
      rw [e] at e'
      cases e'
      tm_at "w"
      refine ⟨_, false, T.cl_Edit.ins ec, T.cl_Create.kit T.sc_Edit (fun h => absurd (Value.ref.inj h).symm T.nqe_Create), ?_⟩
      refine .f ?_
      refine ⟨rfl, .fl (by simp) ?_⟩
      refine ⟨_, false, T.cl_Edit.ins ec, T.cl_Remove.kit T.sr_Edit (fun h => absurd (Value.ref.inj h).symm T.nqe_Remove), ?_⟩
      refine .f ?_
      obtain ⟨dc', q', as, ec', hq', hks⟩ := hc
      refine ⟨_, dc', _, _, ec', T.cl_Edit.cl, T.na_Edit_hunks, lk_hu, ?_⟩
      refine ⟨q0, q', ls, as, hs, rfl, hq0, hq', hks, hl, hf, fun H2 s2 => ?_⟩
      refine ⟨rfl, .fl (by simp) ?_⟩
      refine ⟨a, dx, _, rfl, s2 _ _ ea, lkt_no pu_by pu_so, ?_⟩
      refine ⟨_, dc', _, _, s2 _ _ ec', T.cl_Edit.cl, T.na_Edit_hunks, lk_hu, ?_⟩
      refine ⟨q0, q', ls, as, hs, rfl, s2 _ _ hq0, s2 _ _ hq', hks.same s2, hl, hf, hasc, h2.1, h2.2, fun t H3 s3 ht3 => ?_⟩
      refine ⟨a, p, t, fs, edF ls 0 hs, rfl, ht.same (s2.trans s3), ht3, h4, h6, h5, fun x H' s' t' => k x H' (s2.trans (s3.trans s')) ?_⟩
      show TrAt ad H' x (putF' fs p (edF ((getF fs p).getD []) 0 hs))
      rw [e]; exact t'
theorem ok_apply_patch (T : Txt P K mg ad) : FnOk P w K mg base CX0 7 ad.a_apply_patch ad.d_apply_patch ["tree", "patch"] (spApp K ad) := by
  refine T.f_apply_patch.ok sc_apply_patch (fun vs H Q E h => ?_) (fun cdv A outer s H vs Q E hr h => ?_)
  · obtain ⟨a, p, fs, o, rfl, _⟩ := h; rfl
  · obtain ⟨a, p, fs, ⟨nm, cs⟩, rfl, ht, ⟨dx, dd, q, as, e1, e2, e3⟩, hg, k⟩ := h
    refine ⟨_, pss_cons (ps_for PassesOwn.never rfl (pic_seq (K := K) (ce_fld (K := K) (cv 1) rfl)) (pg_name (i := 2) sc_apply_patch.nd rfl (by first | exact Or.inl rfl | exact Or.inr rfl))
        (pss_one (ps_set (i := 0) sc_apply_patch.nd rfl (by first | exact Or.inl rfl | exact Or.inr rfl) (pe_call (ok_applied T) (hr.mono (by decide)) rfl T.m_applied T.k_applied T.b_applied .nil pass0 (pa_cons (cv 0) (pa_cons (cv 2) pa_nil))))))
      (pss_one (ps_ret (cv 0))), ?_⟩
    have hlen : as.length = cs.length := prd_len e3
    refine .inr ⟨_, dx, _, _, e1, T.cl_Patch.cl, T.na_Patch_changes, lkp3, q, rfl, ⟨_, SqT.of e2⟩, ?_⟩
    refine for_tup (K := K) (a := q) (xs := as.map V.ref) (fun i σ H' => ∃ (b : Addr) (u : Option V) (gs : Fs), σ = [some (.ref b), some (.ref p), u] ∧ Same H H' ∧ TrAt ad H' b gs ∧ Goes gs (cs.drop i) ∧ appP gs (cs.drop i) = appP fs cs)
      ⟨a, _, fs, rfl, Same.refl _, ht, hg, rfl⟩ (fun i σ H' _ ⟨b, u, gs, _, s1, _⟩ => SqT.of (s1 _ _ e2)) ?_ ?_
    · rintro i x σ H1 hx ⟨b, u, gs, rfl, s1, h1, h2, h3⟩
      rw [List.getElem?_map] at hx
      obtain ⟨c, ec, rfl⟩ := Option.map_eq_some_iff.mp hx
      obtain ⟨o, eo, ho⟩ := prd_get (ChsAt.same e3 s1) ec
      obtain ⟨hl, he⟩ := List.getElem?_eq_some_iff.mp eo
      rw [List.drop_eq_getElem_cons hl, he] at h2 h3
      refine ⟨b, c, gs, o, rfl, h1, ho, h2.1, fun x' H2 s2 t2 => ?_⟩
      exact ⟨x', _, _, rfl, s1.trans s2, t2, h2.2, h3⟩
    · rintro σ H1 ⟨b, u, gs, rfl, s1, h1, h2, h3⟩
      rw [List.length_map, hlen, List.drop_length] at h3
      have h3 : gs = appP fs cs := h3
      exact k b H1 s1 (h3 ▸ h1)
end
end Toy

namespace Toy
open PySem L2
local macro_rules | `(tactic| tm_at "w") => `(tactic| (conv => whnf))
local macro_rules | `(tactic| tm_at "fr") => `(tactic| first | assumption | exact upd_none (by assumption) | exact upd_none (upd_none (by assumption)) | exact upd_none (upd_none (upd_none (by assumption))) | exact upd_none (upd_none (upd_none (upd_none (by assumption)))))
local macro_rules | `(tactic| tm_at "ne") => `(tactic| first | assumption | (apply Ne.symm; assumption) | exact upd_none_ne (by assumption) | exact (upd_none_ne (by assumption)).symm | exact upd_none_ne (upd_none (by assumption)) | exact (upd_none_ne (upd_none (by assumption))).symm | exact upd_none_ne (upd_none (upd_none (by assumption))) | exact (upd_none_ne (upd_none (upd_none (by assumption)))).symm)
local macro_rules | `(tactic| tm_at "heap") => `(tactic| first | assumption | exact upd_same | (refine upd_new ?_ (by tm_at "fr"); tm_at "heap") | (refine upd_oth (by tm_at "ne") ?_; tm_at "heap") | (refine SameB.get (by assumption) (by tm_at "ne") ?_; tm_at "heap") | (refine Same.get (by assumption) ?_; tm_at "heap"))
local macro_rules | `(tactic| tm_at "sq") => `(tactic| first | assumption | exact SqL.of (by tm_at "heap") | exact SqT.of (by tm_at "heap"))
local macro_rules | `(tactic| tm_at "ix") => `(tactic| (conv => whnf); first | refine ⟨_, _, .inl (by tm_at "sq"), rfl, ?_⟩ | refine ⟨_, _, .inr (by tm_at "sq"), rfl, ?_⟩)
local macro_rules | `(tactic| tm_at "sb") => `(tactic| first | assumption | exact SameB.refl | (refine SameB.ws ?_; tm_at "sb") | (refine SameB.wr ?_ (by tm_at "fr"); tm_at "sb") | (refine SameB.trans ?_ (by assumption); tm_at "sb"))
/-! the law's trees -/
def paths8 : List Str := ["doc", "src/a", "src/b", "lib/x/y", "main", "src", "libs/z", "a/b/c"]
theorem paths8_nd : paths8.Nodup := by decide +kernel
theorem paths8_ok : ∀ p ∈ paths8, PathOk p ∧ p ≠ "long" ∧ p ≠ "new/a" ∧ p ≠ "new/b" := by
  have h : ∀ p ∈ paths8, pathB p = true ∧ p.length ≤ 100 ∧ (Txt.split p "/").length ≤ 10 ^ 6 ∧ (∀ z ∈ Txt.split p "/", z.length ≤ 10 ^ 6) ∧ p ≠ "long" ∧ p ≠ "new/a" ∧ p ≠ "new/b" := by decide +kernel
  intro p hp
  obtain ⟨h1, h2, h3, h4, h5⟩ := h p hp
  exact ⟨⟨h1, h2, h3, h4⟩, h5⟩
/-- a dict at d of texts to lists of texts -/
def DcL (H : Hp) (d : Addr) (fs : Fs) : Prop := ∃ kvs, H d = some (.dK kvs) ∧ FlR (RLst H) kvs fs
theorem DcL.same {H H' : Hp} {d : Addr} {fs : Fs} (h : DcL H d fs) (e : Same H H') : DcL H' d fs := by
  obtain ⟨kvs, h1, h2⟩ := h
  exact ⟨kvs, e _ _ h1, h2.mono fun _ _ q => q.same e⟩
theorem src_ne {H : Hp} {s p : Addr} {k : Nat} {ys : List V} {ls : List Str} (h : H s = some (.lst ys)) (hy : SrcL k ys) (hp : H p = some (.lst (ls.map V.str))) : p ≠ s := by
  rintro rfl
  obtain ⟨a, b, c, rfl, _⟩ := hy
  rw [h] at hp
  have e := HO.lst.inj (Option.some.inj hp)
  cases ls with
  | nil => cases e
  | cons x t => rw [List.map_cons] at e; injection e with e _; cases e
theorem flL_src {H H' : Hp} {s : Addr} {k : Nat} {ys : List V} {kvs : List (Key × V)} {fs : Fs} (h : H s = some (.lst ys)) (hy : SrcL k ys) (hf : FlR (RLst H) kvs fs) (b : SameB s H H') : FlR (RLst H') kvs fs :=
  hf.mono fun v ls ⟨p, e, hp⟩ => ⟨p, e, b.get (src_ne h hy hp) hp⟩
/-- drawn lines -/
def LnsOk (most words : Int) (ls : List Str) : Prop := (ls.length : Int) ≤ most ∧ ∀ l ∈ ls, Wl words l
def spDrT : Sp := fun vs H Q _ => ∃ (s : Addr) (many most words : Int) (k : Nat) (xs : List V), vs = [.ref s, .int many, .int most, .int words] ∧ H s = some (.lst xs) ∧ SrcL k xs ∧ k < 2 ^ 40 ∧ 0 ≤ many ∧ many ≤ 8 ∧ 0 ≤ most ∧ most ≤ 10 ^ 4 ∧ words ≤ 5 ∧
  ∀ (d : Addr) (fs : Fs) (ys : List V) (H' : Hp), (fs.map Prod.fst).Nodup → (∀ f ∈ fs, f.1 ∈ paths8 ∧ LnsOk most words f.2) → fs.length ≤ 8 → H d = none → DcL H' d fs → H' s = some (.lst ys) → SrcL (k + 8 * (2 + 3 * most.toNat)) ys → SameB s H H' → Q (.ref d) H'
def spBlt (ad : Ad) : Sp := fun vs H Q _ => ∃ (d : Addr) (fs : Fs), vs = [.ref d] ∧ DcL H d fs ∧ FsOk fs ∧ ∀ x H', Same H H' → TrAt ad H' x fs → Q (.ref x) H'
section
variable {P : Program} {w : World} {K : PySem.W.Frag} {mg : Str → Option Value} {base : Heap} {ad : Ad}
theorem ok_law_drawn_tree (T : Txt P K mg ad) : FnOk P w K mg base CX0 3 ad.a_law_drawn_tree ad.d_law_drawn_tree ["_law_source_here", "_law_many", "_law_most", "_law_words"] spDrT := by
  refine T.f_law_drawn_tree.ok sc_law_drawn_tree (fun vs H Q E h => ?_) (fun cdv A outer s H vs Q E hr h => ?_)
  · obtain ⟨s, many, most, words, k, xs, rfl, _⟩ := h; rfl
  · obtain ⟨s, many, most, words, k, xs, rfl, hs, hx, hk, hm0, hm8, hmo, hmo4, hw, q⟩ := h
    refine ⟨_, pss_cons (ps_set (i := 4) sc_law_drawn_tree.nd rfl (by first | exact Or.inl rfl | exact Or.inr rfl) (pe_lst (pa_cons pe_str (pa_cons pe_str (pa_cons pe_str (pa_cons pe_str (pa_cons pe_str (pa_cons pe_str (pa_cons pe_str (pa_cons pe_str pa_nil))))))))))
      (pss_cons (ps_set (i := 5) sc_law_drawn_tree.nd rfl (by first | exact Or.inl rfl | exact Or.inr rfl) pe_dnewK)
      (pss_cons (ps_for PassesOwn.never rfl (pi_range1 rfl T.n_range (pa_cons (cv 1) pa_nil)) (pg_name (i := 6) sc_law_drawn_tree.nd rfl (by first | exact Or.inl rfl | exact Or.inr rfl))
        (pss_one (cs_if (ct_cmp oc_gt (pe_call (ok_law_draw T) (hr.mono (by decide)) rfl T.m_law_draw T.k_law_draw T.b_law_draw .nil pass0 (pa_cons (cv 0) (pa_cons pe_int pa_nil))) pe_int (nomark _))
          (pss_one (ps_dput (hu_of hr) (cv 5) (pe_ix (ic_seq (K := K)) (cv 4) (cv 6) (fun _ _ => rfl)) (pe_call (ok_law_some_lines T) (hr.mono (by decide)) rfl T.m_law_some_lines T.k_law_some_lines T.b_law_some_lines .nil pass0 (pa_cons (cv 0) (pa_cons (cv 2) (pa_cons (cv 3) pa_nil)))) rfl))
          pss_nil)))
      (pss_one (ps_ret (cv 5))))), ?_⟩
    refine ⟨by show 8 ≤ sizeLine; decide, fun pp hpp => ?_⟩
    intro d hd
    have nps : s ≠ pp := ne_of_none hs hpp
    have npd : pp ≠ d := ne_of_none upd_same hd
    have nds : s ≠ d := ne_of_none (upd_oth nps hs) hd
    have hd0 : H d = none := upd_none hd
    refine ⟨_, rfl, by omega, by omega, ?_⟩
    refine for_range (lo := 0) (n := many.toNat) (fun i σ H' => ∃ (u : Option V) (kvs : List (Key × V)) (fs : Fs) (ys : List V), σ = [some (.ref s), some (.int many), some (.int most), some (.int words), some (.ref pp), some (.ref d), u] ∧ H' pp = some (.lst (paths8.map V.str)) ∧ H' d = some (.dK kvs) ∧ FlR (RLst H') kvs fs ∧
        (fs.map Prod.fst).Nodup ∧ (∀ f ∈ fs, f.1 ∈ paths8.take i ∧ LnsOk most words f.2) ∧ fs.length ≤ i ∧ H' s = some (.lst ys) ∧ SrcL (k + i * (2 + 3 * most.toNat)) ys ∧ SameB s H H') ?_ ?_ ?_
    · exact ⟨_, [], [], xs, rfl, upd_oth npd upd_same, upd_same, .nil, List.nodup_nil, (fun _ h => (nomatch h)), Nat.le_refl _, upd_oth nds (upd_oth nps hs), hx.mono (by omega), SameB.wr (SameB.new hpp) hd0⟩
    · rintro i σ H1 hi ⟨u, kvs, fs, ys, rfl, h1, h2, h3, h4, h5, h6, h7, h8, h9⟩
      have hbnd : i * (2 + 3 * most.toNat) ≤ 8 * (2 + 3 * 10 ^ 4) := Nat.mul_le_mul (by omega) (by omega)
      refine ⟨s, _, _, ys, rfl, h7, h8, by omega, by decide, by decide, fun d0 ys1 hd00 hd01 hy1 => ?_⟩
      have e1 : (i + 1) * (2 + 3 * most.toNat) = i * (2 + 3 * most.toNat) + (2 + 3 * most.toNat) := Nat.succ_mul _ _
      have keep : FlR (RLst (upd H1 s (.lst ys1))) kvs fs := flL_src h7 h8 h3 SameB.at
      refine ⟨fun hc => ?_, fun hc => ?_⟩
      · refine ⟨s, most, words, _, ys1, rfl, upd_same, hy1, by omega, by omega, by omega, by omega, fun ls p ys2 H3 hl hls hp hp3 hs3 hy3 b3 => ?_⟩
        have hi8 : i < paths8.length := by show i < 8; omega
        have ep : paths8[i]? = some paths8[i] := List.getElem?_eq_getElem hi8
        have pp3 : H3 pp = some (.lst (paths8.map V.str)) := b3.get nps.symm (upd_oth nps.symm h1)
        have d3 : H3 d = some (.dK kvs) := b3.get nds.symm (upd_oth nds.symm h2)
        refine ⟨_, _, .inl (SqL.of pp3), atI_map (f := V.str) (j := i) (by omega) ep, ?_⟩
        have k3 : FlR (RLst H3) kvs fs := flL_src upd_same hy1 keep b3
        have hnin : paths8[i] ∉ fs.map Prod.fst := by
          intro hz
          obtain ⟨f, hf, e⟩ := List.mem_map.mp hz
          have h51 := (h5 f hf).1
          rw [e] at h51
          have nd8 := paths8_nd
          rw [drop_at ep] at nd8
          exact (List.nodup_append.mp nd8).2.2 _ h51 _ List.mem_cons_self rfl
        have npd3 : p ≠ d := fun z => by subst z; rw [d3] at hp3; cases hp3
        refine ⟨d, _, rfl, DPut.k (k := Sum.inr paths8[i]) d3 (by rw [sizeLine_eq, k3.len]; omega), ?_⟩
        refine ⟨_, _, putF' fs paths8[i] ls, ys2, rfl, upd_oth npd pp3, upd_same, FlR.mono (k3.put ⟨p, rfl, hp3⟩) (fun v ls' ⟨p', e, hp'⟩ => ⟨p', e, upd_oth (fun z => by subst z; rw [d3] at hp'; cases hp') hp'⟩), nodup_put h4, ?_, ?_, upd_oth nds hs3, hy3.mono (by omega), ((h9.ws).trans b3).wr hd0⟩
        · intro f hf
          rw [take_snoc ep]
          rcases mem_put hf with e | e
          · subst e; exact ⟨List.mem_append_right _ List.mem_cons_self, hl, hls⟩
          · exact ⟨List.mem_append_left _ (h5 f e).1, (h5 f e).2⟩
        · have := length_put (fs := fs) (p := paths8[i]) (x := ls); omega
      · exact ⟨_, kvs, fs, ys1, rfl, upd_oth nps.symm h1, upd_oth nds.symm h2, keep, h4, fun f hf => ⟨List.take_subset_take_left _ (Nat.le_succ i) (h5 f hf).1, (h5 f hf).2⟩, by omega, upd_same, hy1.mono (by omega), h9.ws⟩
    · rintro σ H1 ⟨u, kvs, fs, ys, rfl, h1, h2, h3, h4, h5, h6, h7, h8, h9⟩
      exact q d fs ys H1 h4 (fun f hf => ⟨List.mem_of_mem_take (h5 f hf).1, (h5 f hf).2⟩) (by omega) hd0 ⟨kvs, h2, h3⟩ h7 (h8.mono (by have : many.toNat * (2 + 3 * most.toNat) ≤ 8 * (2 + 3 * most.toNat) := Nat.mul_le_mul_right _ (by omega); omega)) h9
theorem ok_law_built (T : Txt P K mg ad) : FnOk P w K mg base CX0 5 ad.a_law_built ad.d_law_built ["_law_files"] (spBlt ad) := by
  refine T.f_law_built.ok sc_law_built (fun vs H Q E h => ?_) (fun cdv A outer s H vs Q E hr h => ?_)
  · obtain ⟨d, fs, rfl, _⟩ := h; rfl
  · obtain ⟨d, fs, rfl, ⟨kvs, h2, h3⟩, fo, k⟩ := h
    refine ⟨_, pss_one (ps_ret (pe_make T.mk_Tree (ok_Tree_XinitX T) (hr.mono (by decide)) rfl T.mg_Tree T.b_Tree_XinitX .nil pass0 (pa_cons (pe_callTy (cc_tuple (K := K)) (by rfl) T.n_tuple (by decide +kernel) (pa_cons (pe_lock (pe_lc (own := [("_law_path", 1)]) (g := gName 1) (by rfl) sc_law_built.nd  (pi_keys (cv 0)) (blkOk_by (own := [("_law_path", 1)]) (N := N_law_built) (sc := defScope s_law_built) (by decide +kernel)) (fun _ _ _ _ _ => pg_name (i := 1) sc_law_built.nd rfl (by first | exact Or.inl rfl | exact Or.inr rfl)) (fun _ _ _ _ _ => pts_nil) (fun _ _ _ _ _ => pe_tup (pa_cons (cv 1) (pa_cons (pe_callTy (cc_tuple (K := K)) (by rfl) T.n_tuple (by decide +kernel) (pa_cons (pe_dget (hu_of hr) (cv 0) (cv 1) (fun _ _ => rfl)) pa_nil)) pa_nil))))) pa_nil)) pa_nil))), ?_⟩
    refine ⟨d, _, h2, trivial, fun od => ?_⟩
    refine ⟨d, od, rfl, .inl ⟨kvs, upd_same, fun D hD => ?_⟩⟩
    refine lc_fl (walk_keysF h3) (fun _ => true) (fun y f H' => ∃ t, y = .ref t ∧ PfAt H' t f) rfl (fun y f H3 H4 acc hD3 s3 ⟨t, e1, q', e2, e3⟩ => ⟨t, e1, q', s3.get (fun z => by subst z; rw [e2] at hD3; cases hD3) e2, s3.get (fun z => by subst z; rw [e3] at hD3; cases hD3) e3⟩) hD (by have := fo.2.2; omega) (fun H3 s3 => s3 _ _ upd_same) ?_ ?_
    · rintro i f x H3 H4 Nx Nz ef s3 ⟨rfl, p, ls, ef', rfl⟩ k1 _
      rw [ef] at ef'
      cases ef'
      obtain ⟨v, hv, u, rfl, hu⟩ := h3.of_some (getF_of_mem fo.1 (List.mem_of_getElem? ef))
      have hu3 : H4 u = some (.lst (ls.map V.str)) := s3 _ _ (upd_oth (fun z => by subst z; rw [hu] at h2; cases h2) hu)
      refine ⟨rfl, ?_⟩
      refine ⟨d, _, rfl, hv ▸ (.inl ⟨kvs, Sum.inr p, .inr ⟨od, s3 _ _ upd_same⟩, rfl, rfl⟩ : DGet H4 d (.str p) (valV kvs (Sum.inr p))), ?_⟩
      refine ⟨_, .inl ⟨SqL.of hu3, fun q hq => ?_⟩⟩
      refine ⟨by show 2 ≤ sizeLine; decide, fun t ht => ?_⟩
      exact k1 rfl _ _ ((Same.new hq).trans (Same.new ht)) ⟨t, rfl, q, upd_same, upd_new upd_same ht⟩
    · intro H3 ys pr s3 hD3
      refine ⟨s3 _ _ upd_same, ?_⟩
      obtain ⟨ts, rfl, pr'⟩ := refsP pr
      rw [List.filter_eq_self.mpr (fun _ _ => rfl)] at pr'
      have nDd : D ≠ d := fun z => by subst z; rw [upd_same] at hD; cases hD
      have su : Same H (upd H3 d (.dK kvs)) := Same.unlock h2 s3
      refine ⟨_, .inl ⟨SqL.of (upd_oth nDd hD3), fun t ht => ?_⟩⟩
      have s4 := su.trans (Same.new (o := .tup (ts.map V.ref)) ht)
      intro x dx' hx hdx hne
      have nxt : t ≠ x := ne_of_none upd_same hx
      have ndt : t ≠ dx' := ne_of_none upd_same hdx
      refine ⟨x, dx', t, ts, fs, rfl, upd_same, by rw [upd_ne nxt, upd_ne ndt]; exact upd_same, ?_, fo, fun H6 b6 t6 => ⟨rfl, k x H6 (s4.trans (mk_same hx hdx b6)) t6⟩⟩
      refine prd_mono (fun t' f g => PfAt.same g ((mkn_same (o1 := .own x) (o2 := .ins ad.c_Tree dx' []) hx hdx))) (prd_mono (fun t' f g => PfAt.same g (Same.new ht)) (prd_mono (fun t' f g => ?_) pr'))
      obtain ⟨q', g1, g2⟩ := g
      exact ⟨q', upd_oth (fun z => by subst z; rw [s3 _ _ upd_same] at g1; cases g1) g1, upd_oth (fun z => by subst z; rw [s3 _ _ upd_same] at g2; cases g2) g2⟩
end
end Toy

namespace Toy
open PySem L2
local macro_rules | `(tactic| tm_at "w") => `(tactic| (conv => whnf))
local macro_rules | `(tactic| tm_at "fr") => `(tactic| first | assumption | exact upd_none (by assumption) | exact upd_none (upd_none (by assumption)) | exact upd_none (upd_none (upd_none (by assumption))) | exact upd_none (upd_none (upd_none (upd_none (by assumption)))))
local macro_rules | `(tactic| tm_at "ne") => `(tactic| first | assumption | (apply Ne.symm; assumption) | exact upd_none_ne (by assumption) | exact (upd_none_ne (by assumption)).symm | exact upd_none_ne (upd_none (by assumption)) | exact (upd_none_ne (upd_none (by assumption))).symm | exact upd_none_ne (upd_none (upd_none (by assumption))) | exact (upd_none_ne (upd_none (upd_none (by assumption)))).symm)
local macro_rules | `(tactic| tm_at "heap") => `(tactic| first | assumption | exact upd_same | (refine upd_new ?_ (by tm_at "fr"); tm_at "heap") | (refine upd_oth (by tm_at "ne") ?_; tm_at "heap") | (refine SameB.get (by assumption) (by tm_at "ne") ?_; tm_at "heap") | (refine Same.get (by assumption) ?_; tm_at "heap"))
local macro_rules | `(tactic| tm_at "sq") => `(tactic| first | assumption | exact SqL.of (by tm_at "heap") | exact SqT.of (by tm_at "heap"))
local macro_rules | `(tactic| tm_at "ix") => `(tactic| (conv => whnf); first | refine ⟨_, _, .inl (by tm_at "sq"), rfl, ?_⟩ | refine ⟨_, _, .inr (by tm_at "sq"), rfl, ?_⟩)
local macro_rules | `(tactic| tm_at "sb") => `(tactic| first | assumption | exact SameB.refl | (refine SameB.ws ?_; tm_at "sb") | (refine SameB.wr ?_ (by tm_at "fr"); tm_at "sb") | (refine SameB.trans ?_ (by assumption); tm_at "sb"))
/-! the law's own way to apply a patch -/
/-- a row: a place, the lines before, the lines after -/
def RwAt (H : Hp) (t : Addr) (h : Hk) : Prop := ∃ b c, H t = some (.tup [.int h.pl, .ref b, .ref c]) ∧ H b = some (.tup (h.be.map V.str)) ∧ H c = some (.tup (h.af.map V.str))
theorem RwAt.same {H H' : Hp} {t : Addr} {h : Hk} (x : RwAt H t h) (e : Same H H') : RwAt H' t h := by
  obtain ⟨b, c, h1, h2, h3⟩ := x
  exact ⟨b, c, e _ _ h1, e _ _ h2, e _ _ h3⟩
/-- only what is no tuple is written -/
theorem RwAt.sameO {H H' : Hp} {t x : Addr} {h : Hk} {o : HO} (hx : H x = some o) (nt : ∀ xs, o ≠ .tup xs) (s : SameB x H H') (g : RwAt H t h) : RwAt H' t h := by
  obtain ⟨b, c, h1, h2, h3⟩ := g
  have kt : ∀ {b xs}, H b = some (.tup xs) → H' b = some (.tup xs) := fun {b xs} h => s.get (fun z => by subst z; rw [hx] at h; exact nt _ (Option.some.inj h)) h
  exact ⟨b, c, kt h1, kt h2, kt h3⟩
theorem asc_mono : ∀ {hs : List Hk} {e e' : Nat}, Asc e hs → e' ≤ e → Asc e' hs
  | [], _, _, _, _ => trivial
  | h :: t, e, e', ⟨a, b⟩, l => ⟨by omega, b⟩
theorem asc_drop : ∀ {hs : List Hk} {e : Nat}, Asc e hs → (∀ h ∈ hs, 0 ≤ h.pl) → ∀ n, Asc 0 (hs.drop n)
  | hs, e, h, _, 0 => asc_mono h (Nat.zero_le _)
  | [], _, _, _, n + 1 => trivial
  | a :: t, e, ⟨_, h⟩, hp, n + 1 => asc_drop h (fun g hg => hp g (List.mem_cons_of_mem _ hg)) n
end Toy

namespace Toy
open PySem L2
local macro_rules | `(tactic| tm_at "w") => `(tactic| (conv => whnf))
local macro_rules | `(tactic| tm_at "fr") => `(tactic| first | assumption | exact upd_none (by assumption) | exact upd_none (upd_none (by assumption)) | exact upd_none (upd_none (upd_none (by assumption))) | exact upd_none (upd_none (upd_none (upd_none (by assumption)))))
local macro_rules | `(tactic| tm_at "ne") => `(tactic| first | assumption | (apply Ne.symm; assumption) | exact upd_none_ne (by assumption) | exact (upd_none_ne (by assumption)).symm | exact upd_none_ne (upd_none (by assumption)) | exact (upd_none_ne (upd_none (by assumption))).symm | exact upd_none_ne (upd_none (upd_none (by assumption))) | exact (upd_none_ne (upd_none (upd_none (by assumption)))).symm)
local macro_rules | `(tactic| tm_at "heap") => `(tactic| first | assumption | exact upd_same | (refine upd_new ?_ (by tm_at "fr"); tm_at "heap") | (refine upd_oth (by tm_at "ne") ?_; tm_at "heap") | (refine SameB.get (by assumption) (by tm_at "ne") ?_; tm_at "heap") | (refine Same.get (by assumption) ?_; tm_at "heap"))
local macro_rules | `(tactic| tm_at "sq") => `(tactic| first | assumption | exact SqL.of (by tm_at "heap") | exact SqT.of (by tm_at "heap"))
local macro_rules | `(tactic| tm_at "ix") => `(tactic| (conv => whnf); first | refine ⟨_, _, .inl (by tm_at "sq"), rfl, ?_⟩ | refine ⟨_, _, .inr (by tm_at "sq"), rfl, ?_⟩)
local macro_rules | `(tactic| tm_at "sb") => `(tactic| first | assumption | exact SameB.refl | (refine SameB.ws ?_; tm_at "sb") | (refine SameB.wr ?_ (by tm_at "fr"); tm_at "sb") | (refine SameB.trans ?_ (by assumption); tm_at "sb"))
/-! exact hunks -/
def XhI (H : Hp) (s p r : Addr) (ls : List Str) (ts : List Addr) (hs : List Hk) (k : Nat) (H' : Hp) (ys : List V) : Prop :=
  H r = none ∧ r ≠ s ∧ p ≠ s ∧ H' p = some (.lst (ls.map V.str)) ∧ H' r = some (.lst (ts.map V.ref)) ∧ Paired (RwAt H') ts hs ∧ H' s = some (.lst ys) ∧ SrcL k ys ∧ SameB s H H'
theorem XhI.step {H : Hp} {s p r : Addr} {ls : List Str} {ts : List Addr} {hs : List Hk} {k k' : Nat} {H' H'' : Hp} {ys ys' : List V} (x : XhI H s p r ls ts hs k H' ys) (b : SameB s H' H'') (h : H'' s = some (.lst ys')) (hy : SrcL k' ys') : XhI H s p r ls ts hs k' H'' ys' := by
  obtain ⟨x1, x2, x3, x4, x5, x6, x7, x8, x9⟩ := x
  exact ⟨x1, x2, x3, b.get x3 x4, b.get x2 x5, prd_mono (fun _ _ g => RwAt.sameO x7 (fun _ z => nomatch z) b g) x6, h, hy, x9.trans b⟩
theorem XhI.same {H : Hp} {s p r : Addr} {ls : List Str} {ts : List Addr} {hs : List Hk} {k : Nat} {H' H'' : Hp} {ys : List V} (x : XhI H s p r ls ts hs k H' ys) (b : Same H' H'') : XhI H s p r ls ts hs k H'' ys :=
  x.step (SameB.of b) (b _ _ x.2.2.2.2.2.2.1) x.2.2.2.2.2.2.2.1
theorem asc_snoc : ∀ {hs : List Hk} {e : Nat} {h : Hk}, Asc e hs → ((hs.foldl (fun _ g => g.hi) e : Nat) : Int) ≤ h.pl → Asc e (hs ++ [h])
  | [], e, h, _, l => ⟨l, trivial⟩
  | a :: t, e, h, ⟨x, y⟩, l => ⟨x, asc_snoc y l⟩
theorem cutV_add (xs : List V) {a : Nat} (m : Nat) (h : a ≤ xs.length) : cutV xs (some (a : Int)) (some ((a : Int) + (m : Int))) = (xs.drop a).take m := by
  unfold cutV
  rw [← Int.natCast_add, HT.sIx_nat, HT.sIx_nat, Nat.min_eq_left h]
  by_cases hc : a + m ≤ xs.length
  · rw [Nat.min_eq_left hc, Nat.add_sub_cancel_left]
  · rw [Nat.min_eq_right (by omega), List.take_of_length_le (by rw [List.length_drop]; exact Nat.le_refl _), List.take_of_length_le (by rw [List.length_drop]; omega)]
/-- what is told of a drawn hunk -/
def HkD (ls : List Str) (h : Hk) : Prop := fitsAt ls h ∧ h.be ≠ h.af ∧ h.af.length ≤ 10 ∧ h.be.length ≤ 10
def spXh (K : PySem.W.Frag) : Sp := fun vs H Q _ => ∃ (s p : Addr) (ls : List Str) (many words : Int) (k : Nat) (xs : List V), vs = [.ref s, .ref p, .int many, .int words] ∧ H s = some (.lst xs) ∧ SrcL k xs ∧ k < 2 ^ 40 ∧ H p = some (.lst (ls.map V.str)) ∧ ls.length ≤ 10 ^ 5 ∧ 0 ≤ many ∧ many ≤ 100 ∧ words ≤ 5 ∧
  ∀ (q : Addr) (ts : List Addr) (hs : List Hk) (ys : List V) (H' : Hp), H q = none → H' q = some (.lst (ts.map V.ref)) → Paired (RwAt H') ts hs → (∀ h ∈ hs, HkD ls h) → Asc 0 hs → (hs.length : Int) ≤ many → H' s = some (.lst ys) → SrcL (k + 20 * many.toNat) ys → SameB s H H' → Q (.ref q) H'
section
variable {P : Program} {w : World} {K : PySem.W.Frag} {mg : Str → Option Value} {base : Heap} {ad : Ad}
set_option maxHeartbeats 8000000 in
theorem ok_law_exact_hunks (T : Txt P K mg ad) : FnOk P w K mg base CX0 3 ad.a_law_exact_hunks ad.d_law_exact_hunks ["_law_source_here", "_law_lines", "_law_many", "_law_words"] (spXh K) := by
  refine T.f_law_exact_hunks.ok sc_law_exact_hunks (fun vs H Q E h => ?_) (fun cdv A outer s H vs Q E hr h => ?_)
  · obtain ⟨s, p, ls, many, words, k, xs, rfl, _⟩ := h; rfl
  · obtain ⟨s, p, ls, many, words, k, xs, rfl, hs, hx, hk, hp, hl, hm0, hm, hw, q⟩ := h
    refine ⟨_, pss_cons (ps_par (i := 4) (j := 5) (by rfl) sc_law_exact_hunks.nd rfl rfl (by decide) rfl rfl (pa_cons (pe_lst pa_nil) (pa_cons pe_int pa_nil)) (by rfl))
      (pss_cons (ps_for PassesOwn.never rfl (pi_range1 rfl T.n_range (pa_cons (cv 2) pa_nil)) (pg_name (i := 6) sc_law_exact_hunks.nd rfl (by first | exact Or.inl rfl | exact Or.inr rfl))
        (pss_cons (ps_set (i := 7) sc_law_exact_hunks.nd rfl (by first | exact Or.inl rfl | exact Or.inr rfl) (pe_op (oc_add (K := K)) (cv 5) (pe_call (ok_law_draw T) (hr.mono (by decide)) rfl T.m_law_draw T.k_law_draw T.b_law_draw .nil pass0 (pa_cons (cv 0) (pa_cons pe_int pa_nil)))))
        (pss_cons (cs_if (ct_cmp oc_gt (cv 7) (pe_callB (cc_len (K := K)) (by rfl) T.n_len (by decide +kernel) (pa_cons (cv 1) pa_nil)) (nomark _))
          (pss_one ps_break)
          pss_nil)
        (pss_cons (ps_set (i := 8) sc_law_exact_hunks.nd rfl (by first | exact Or.inl rfl | exact Or.inr rfl) (pe_callTy (cc_tuple (K := K)) (by rfl) T.n_tuple (by decide +kernel) (pa_cons (pe_slice (sc_U (K := K)) (cv 1) (poc (cv 7)) (poc (pe_op (oc_add (K := K)) (cv 7) (pe_call (ok_law_draw T) (hr.mono (by decide)) rfl T.m_law_draw T.k_law_draw T.b_law_draw .nil pass0 (pa_cons (cv 0) (pa_cons pe_int pa_nil)))))) pa_nil)))
        (pss_cons (ps_set (i := 9) sc_law_exact_hunks.nd rfl (by first | exact Or.inl rfl | exact Or.inr rfl) (pe_callTy (cc_tuple (K := K)) (by rfl) T.n_tuple (by decide +kernel) (pa_cons (pe_call (ok_law_some_lines T) (hr.mono (by decide)) rfl T.m_law_some_lines T.k_law_some_lines T.b_law_some_lines .nil pass0 (pa_cons (cv 0) (pa_cons pe_int (pa_cons (cv 3) pa_nil)))) pa_nil)))
        (pss_cons (PS.cut (cs_if (ct_cmp (oc_eq (K := K) hr.units) (cv 3) pe_int (nomark _))
          (pss_one (ps_set (i := 9) sc_law_exact_hunks.nd rfl (by first | exact Or.inl rfl | exact Or.inr rfl) (pe_callTy (cc_tuple (K := K)) (by rfl) T.n_tuple (by decide +kernel) (pa_cons (pe_lc (own := [("_law_line", 10)]) (g := gName 10) (by rfl) sc_law_exact_hunks.nd  (pic_seq (K := K) (cv 9)) (blkOk_by (own := [("_law_line", 10)]) (N := N_law_exact_hunks) (sc := defScope s_law_exact_hunks) (by decide +kernel)) (fun _ _ _ _ _ => pg_name (i := 10) sc_law_exact_hunks.nd rfl (by first | exact Or.inl rfl | exact Or.inr rfl)) (fun _ _ _ _ _ => pts_nil) (fun _ _ _ _ _ => pe_op (oc_add (K := K)) (pe_op (oc_add (K := K)) (cv 10) pe_str) (pe_callTy cc_str (by rfl) T.n_str (by decide +kernel) (pa_cons (cv 6) pa_nil)))) pa_nil))))
          pss_nil))
        (pss_cons (PS.cut (cs_if (PW.pt (cw_and (ct_cmp (oc_eq (K := K) hr.units) (pe_call (ok_law_draw T) (hr.mono (by decide)) rfl T.m_law_draw T.k_law_draw T.b_law_draw .nil pass0 (pa_cons (cv 0) (pa_cons pe_int pa_nil))) pe_int (nomark _)) (pw_and1 (ct_cmp oc_gt (pe_callB (cc_len (K := K)) (by rfl) T.n_len (by decide +kernel) (pa_cons (cv 8) pa_nil)) pe_int (nomark _)))))
          (pss_one (ps_set (i := 9) sc_law_exact_hunks.nd rfl (by first | exact Or.inl rfl | exact Or.inr rfl) (pe_op op_addT (pe_op op_addT (pe_slice sc_T (cv 8) po_none (poc pe_int)) (cv 9)) (pe_slice sc_T (cv 8) (poc (pe_un uc_neg pe_int)) po_none))))
          pss_nil))
        (pss_cons (PS.cut (cs_if (ct_cmp (oc_eq (K := K) hr.units) (cv 9) (cv 8) (nomark _))
          (pss_one (ps_set (i := 9) sc_law_exact_hunks.nd rfl (by first | exact Or.inl rfl | exact Or.inr rfl) (pe_op op_addT (cv 9) (pe_tup (pa_cons (pe_op (oc_add (K := K)) pe_str (pe_callTy cc_str (by rfl) T.n_str (by decide +kernel) (pa_cons (cv 6) pa_nil))) pa_nil)))))
          pss_nil))
        (pss_cons (ps_expr (pe_bm PySem.F.plainAttrs_list PySem.F.slot_list_append PySem.F.type_list_append (mc_append) (cv 4) (pa_cons (pe_tup (pa_cons (cv 7) (pa_cons (cv 8) (pa_cons (cv 9) pa_nil)))) pa_nil)))
        (pss_one (ps_set (i := 5) sc_law_exact_hunks.nd rfl (by first | exact Or.inl rfl | exact Or.inr rfl) (pe_op (oc_add (K := K)) (cv 7) (pe_callB (cc_len (K := K)) (by rfl) T.n_len (by decide +kernel) (pa_cons (cv 8) pa_nil))))))))))))))
      (pss_one (ps_ret (cv 4)))), ?_⟩
    refine ⟨Nat.zero_le _, fun r hrn => ?_⟩
    have nrs : r ≠ s := (ne_of_none hs hrn).symm
    have nps : p ≠ s := src_ne hs hx hp
    refine ⟨_, _, rfl, ?_⟩
    refine ⟨many, rfl, by omega, by omega, ?_⟩
    refine for_range (lo := 0) (n := many.toNat) (fun i σ H' => ∃ (u6 u7 u8 u9 u10 : Option V) (ts : List Addr) (hs : List Hk) (ys : List V), σ = [some (.ref s), some (.ref p), some (.int many), some (.int words), some (.ref r), some (.int ((hs.foldl (fun _ g => g.hi) 0 : Nat) : Int)), u6, u7, u8, u9, u10] ∧ XhI H s p r ls ts hs (k + 20 * i) H' ys ∧ (∀ h ∈ hs, HkD ls h) ∧ Asc 0 hs ∧ hs.length ≤ i) ?_ ?_ ?_
    · exact ⟨_, _, _, _, _, [], [], xs, rfl, ⟨hrn, nrs, nps, upd_new hp hrn, upd_same, .nil, upd_new hs hrn, hx, SameB.new hrn⟩, (fun _ h => (nomatch h)), trivial, Nat.le_refl _⟩
    · rintro i σ H1 hi ⟨u6, u7, u8, u9, u10, ts, hks, ys, rfl, X, hd, hasc, hln⟩
      generalize hE : hks.foldl (fun _ g => g.hi) 0 = low at *
      refine ⟨s, _, _, ys, rfl, X.2.2.2.2.2.2.1, X.2.2.2.2.2.2.2.1, by omega, by decide, by decide, fun d ys1 hd0 hd1 hy1 => ?_⟩
      have X1 := X.step (SameB.at (o := .lst ys1)) upd_same hy1
      generalize upd H1 s (HO.lst ys1) = G1 at X1 ⊢
      refine ⟨_, .inl (SqL.of X1.2.2.2.1), ?_⟩
      rw [List.length_map]
      refine ⟨fun hc => ?_, fun hc => ?_⟩
      · exact q r ts hks ys1 G1 hrn X1.2.2.2.2.1 X1.2.2.2.2.2.1 hd hasc (by omega) X1.2.2.2.2.2.2.1 (hy1.mono (by omega)) X1.2.2.2.2.2.2.2.2
      have hc : ¬ ((ls.length : Int) < low + d) := of_decide_eq_false hc
      obtain ⟨d', rfl⟩ := Int.eq_ofNat_of_zero_le hd0
      refine ⟨s, _, _, ys1, rfl, X1.2.2.2.2.2.2.1, hy1, by omega, by decide, by decide, fun d2 ys2 hd20 hd21 hy2 => ?_⟩
      obtain ⟨m, rfl⟩ := Int.eq_ofNat_of_zero_le hd20
      have X2 := X1.step (SameB.at (o := .lst ys2)) upd_same hy2
      generalize upd G1 s (HO.lst ys2) = G2 at X2 ⊢
      rw [← Int.natCast_add]
      generalize hat : low + d' = at_ at *
      refine .inl ⟨p, _, rfl, SqL.of X2.2.2.2.1, fun n1 hn1 => ?_⟩
      rw [cutV_add _ m (by rw [List.length_map]; omega), ← List.map_drop, ← List.map_take]
      refine ⟨_, .inl ⟨SqL.of upd_same, fun b hb => ?_⟩⟩
      have X3 := X2.same ((Same.new (o := .lst (((ls.drop at_).take m).map V.str)) hn1).trans (Same.new (o := .tup (((ls.drop at_).take m).map V.str)) hb))
      have hb3 : (upd (upd G2 n1 (.lst (((ls.drop at_).take m).map V.str))) b (.tup (((ls.drop at_).take m).map V.str))) b = some (.tup (((ls.drop at_).take m).map V.str)) := upd_same
      generalize upd (upd G2 n1 (.lst (((ls.drop at_).take m).map V.str))) b (HO.tup (((ls.drop at_).take m).map V.str)) = G3 at X3 hb3 ⊢
      clear hn1 hb
      have hbl : ((ls.drop at_).take m).length ≤ 3 := by rw [List.length_take]; omega
      generalize hbe : (ls.drop at_).take m = be at hb3 hbl ⊢
      refine ⟨s, 3, words, _, ys2, rfl, X3.2.2.2.2.2.2.1, hy2, by omega, by decide, by decide, by omega, fun af0 p3 ys3 G4 hl3 hw3 hp3 hp4 hs4 hy3 b4 => ?_⟩
      have nbs : b ≠ s := fun z => by subst z; rw [X3.2.2.2.2.2.2.1] at hb3; cases hb3
      have X4 := X3.step b4 hs4 hy3
      have hb4 := b4.get nbs hb3
      refine ⟨_, .inl ⟨SqL.of hp4, fun c0 hc0 => ?_⟩⟩
      have X5 := X4.same (Same.new (o := .tup (af0.map V.str)) hc0)
      have hb5 : (upd G4 c0 (.tup (af0.map V.str))) b = some (.tup (be.map V.str)) := upd_new hb4 hc0
      have hc5 : (upd G4 c0 (.tup (af0.map V.str))) c0 = some (.tup (af0.map V.str)) := upd_same
      generalize upd G4 c0 (HO.tup (af0.map V.str)) = G5 at X5 hb5 hc5 ⊢
      clear hc0 hb4 hp4 hs4 b4 hp3 hb3 X3 X4 X2 X1 X
      have hnum : (0 + (i : Int)).natAbs.log2 < 1920 := log2_small (a := 64) (by omega) (by decide) (by decide)
      have hnl : (Str.ofString (toString (0 + (i : Int)))).length ≤ 7 := str_len_num (by omega) (by decide) (by omega)
      -- words
      refine ⟨fun σ' H' => ∃ (c : Addr) (af : List Str) (u10 : Option V), σ' = [some (.ref s), some (.ref p), some (.int many), some (.int words), some (.ref r), some (.int (low : Int)), some (.int (0 + (i : Int))), some (.int (at_ : Int)), some (.ref b), some (.ref c), u10] ∧ XhI H s p r ls ts hks (k + 20 * i + 1 + 1 + 1 + 3 * 3) H' ys3 ∧ H' b = some (.tup (be.map V.str)) ∧ H' c = some (.tup (af.map V.str)) ∧ af.length ≤ 3, ?_, ?_⟩
      · refine ⟨fun hw0 => ?_, fun hw0 => ?_⟩
        · refine .inr ⟨c0, rfl, ⟨_, SqT.of hc5⟩, fun D hD => ?_⟩
          refine lc_fl (walk_tup (xs := af0.map V.str)) (fun _ => true) (fun y l H' => ∃ z : Str, y = V.str z ∧ True) (xs := af0) (by rw [List.length_map]) (fun y h H3 H4 acc hD3 s3 z => z) hD (by rw [List.length_map]; omega) (fun H3 s3 => SqT.of (s3 _ _ hc5)) ?_ ?_
          · rintro j l x H3 H4 Nx Nz el s3 ⟨rfl, hx⟩ k1 _
            rw [List.getElem?_map, el] at hx
            cases hx
            have hll := (hw3 l (List.mem_of_getElem? el)).1
            refine ⟨rfl, ?_⟩
            refine ⟨by rw [sizeLine_eq]; show l.length + 2 ≤ _; omega, ?_⟩
            refine ⟨hnum, ?_⟩
            refine ⟨by rw [sizeLine_eq, str_len_app]; show l.length + 2 + _ ≤ _; omega, ?_⟩
            exact k1 rfl _ _ (Same.refl _) ⟨_, rfl, trivial⟩
          · intro H3 yv pr s3 hD3
            obtain ⟨zs, rfl, pr'⟩ := valsP pr
            rw [List.filter_eq_self.mpr (fun _ _ => rfl)] at pr'
            refine ⟨_, .inl ⟨SqL.of hD3, fun c hc => ?_⟩⟩
            have s4 := s3.trans (Same.new (o := .tup (zs.map V.str)) hc)
            exact ⟨c, zs, _, rfl, X5.same s4, s4 _ _ hb5, upd_same, by rw [prd_len pr']; omega⟩
        · exact ⟨c0, af0, _, rfl, X5, hb5, hc5, by omega⟩
      clear X5 hb5 hc5 hw3
      rintro σ' G6 ⟨c, af, u10', rfl, X6, hb6, hc6, ha6⟩
      -- the ends kept
      refine ⟨fun σ' H' => ∃ (c : Addr) (af : List Str) (u10 : Option V) (ys4 : List V), σ' = [some (.ref s), some (.ref p), some (.int many), some (.int words), some (.ref r), some (.int (low : Int)), some (.int (0 + (i : Int))), some (.int (at_ : Int)), some (.ref b), some (.ref c), u10] ∧ XhI H s p r ls ts hks (k + 20 * i + 1 + 1 + 1 + 3 * 3 + 1) H' ys4 ∧ H' b = some (.tup (be.map V.str)) ∧ H' c = some (.tup (af.map V.str)) ∧ af.length ≤ 9, ?_, ?_⟩
      · refine ⟨s, 3, _, ys3, rfl, X6.2.2.2.2.2.2.1, hy3, by omega, by decide, by decide, fun d3 ys4 hd30 hd31 hy4 => ?_⟩
        have X7 := X6.step (SameB.at (o := .lst ys4)) upd_same hy4
        have ncs : c ≠ s := fun z => by subst z; rw [X6.2.2.2.2.2.2.1] at hc6; cases hc6
        have hb7 := upd_oth (H := G6) (o := .lst ys4) nbs hb6
        have hc7 := upd_oth (H := G6) (o := .lst ys4) ncs hc6
        generalize upd G6 s (HO.lst ys4) = G7 at X7 hb7 hc7 ⊢
        have no : ∃ (c' : Addr) (af : List Str) (u10 : Option V) (ys4' : List V), [some (V.ref s), some (.ref p), some (.int many), some (.int words), some (.ref r), some (.int (low : Int)), some (.int (0 + (i : Int))), some (.int (at_ : Int)), some (.ref b), some (.ref c), u10'] = [some (.ref s), some (.ref p), some (.int many), some (.int words), some (.ref r), some (.int (low : Int)), some (.int (0 + (i : Int))), some (.int (at_ : Int)), some (.ref b), some (.ref c'), u10] ∧ XhI H s p r ls ts hks (k + 20 * i + 1 + 1 + 1 + 3 * 3 + 1) G7 ys4' ∧ G7 b = some (.tup (be.map V.str)) ∧ G7 c' = some (.tup (af.map V.str)) ∧ af.length ≤ 9 :=
          ⟨c, af, _, ys4, rfl, X7, hb7, hc7, by omega⟩
        refine ⟨fun h3 => ?_, fun h3 => .f no⟩
        refine ⟨_, .inr (SqT.of hb7), ?_⟩
        refine ⟨fun h4 => ?_, fun h4 => no⟩
        refine ⟨b, _, rfl, hb7, fun e1 H8 s8 h8 => ?_⟩
        rw [cutV_map] at h8
        refine ⟨e1, c, _, _, rfl, rfl, h8, s8 _ _ hc7, by rw [List.length_map, List.length_map, sizeLine_eq]; have := cutL_length be none (some 1); omega, fun e2 H9 s9 h9 => ?_⟩
        refine ⟨b, _, rfl, s9 _ _ (s8 _ _ hb7), fun e3 H10 s10 h10 => ?_⟩
        rw [cutV_map] at h10
        rw [← List.map_append] at h9
        have b1 := cutL_length be none (some 1)
        have b2 := cutL_length be (some (-1)) none
        refine ⟨e2, e3, _, _, rfl, rfl, s10 _ _ h9, h10, by rw [List.length_map, List.length_map, List.length_append, sizeLine_eq]; omega, fun e4 H11 s11 h11 => ?_⟩
        rw [← List.map_append] at h11
        have sA := s8.trans (s9.trans (s10.trans s11))
        exact ⟨e4, _, _, ys4, rfl, X7.same sA, sA _ _ hb7, h11, by rw [List.length_append, List.length_append]; omega⟩
      clear X6 hb6 hc6 ha6
      rintro σ' G7 ⟨c, af, u10', ys4, rfl, X7, hb7, hc7, ha7⟩
      -- unlike
      refine ⟨fun σ' H' => ∃ (c : Addr) (af : List Str) (u10 : Option V), σ' = [some (.ref s), some (.ref p), some (.int many), some (.int words), some (.ref r), some (.int (low : Int)), some (.int (0 + (i : Int))), some (.int (at_ : Int)), some (.ref b), some (.ref c), u10] ∧ XhI H s p r ls ts hks (k + 20 * i + 1 + 1 + 1 + 3 * 3 + 1) H' ys4 ∧ H' b = some (.tup (be.map V.str)) ∧ H' c = some (.tup (af.map V.str)) ∧ af.length ≤ 10 ∧ be ≠ af, ?_, ?_⟩
      · refine .inl (rEq_strs (.inr ⟨SqT.of hc7, SqT.of hb7⟩) ?_)
        refine ⟨fun h3 => ?_, fun h3 => ⟨c, af, _, rfl, X7, hb7, hc7, by omega, fun e => of_decide_eq_false h3 e.symm⟩⟩
        have h3 := of_decide_eq_true h3
        refine ⟨hnum, ?_⟩
        refine ⟨by rw [sizeLine_eq]; show 6 + _ ≤ _; omega, ?_⟩
        refine ⟨by show 1 ≤ sizeLine; decide, fun e he => ?_⟩
        refine ⟨c, e, _, _, rfl, rfl, upd_new hc7 he, upd_same, by rw [List.length_map, sizeLine_eq]; show _ + 1 ≤ _; omega, fun e2 H8 s8 h8 => ?_⟩
        have sA := (Same.new he).trans s8
        refine ⟨e2, af ++ [Str.ofString "added " ++ Str.ofString (toString (0 + (i : Int)))], _, rfl, X7.same sA, sA _ _ hb7, by rw [h8, List.map_append]; rfl, by rw [List.length_append]; show _ + 1 ≤ _; omega, fun z => ?_⟩
        have := congrArg List.length z
        rw [h3, List.length_append] at this
        have : be.length = be.length + 1 := this
        omega
      clear X7 hb7 hc7 ha7
      rintro σ' G8 ⟨c, af, u10'', rfl, X8, hb8, hc8, ha8, hne⟩
      obtain ⟨y1, y2, y3, y4, y5, y6, y7, y8, y9⟩ := X8
      refine ⟨.inl ⟨rfl, _, SqL.of y5⟩, ?_⟩
      refine ⟨by show 3 ≤ sizeLine; decide, fun t ht => ?_⟩
      have hlt : ts.length = hks.length := prd_len y6
      refine ⟨_, upd_new y5 ht, by rw [List.length_map, sizeLine_eq]; omega, ?_⟩
      have nbr : b ≠ r := fun z => by subst z; rw [y5] at hb8; cases hb8
      have ncr : c ≠ r := fun z => by subst z; rw [y5] at hc8; cases hc8
      have ntr : t ≠ r := (ne_of_none y5 ht).symm
      refine ⟨_, .inr (SqT.of (upd_oth nbr (upd_new hb8 ht))), ?_⟩
      have hat' : (at_ : Int) ≤ ls.length := by omega
      have hbl2 : be.length ≤ ls.length - at_ := by rw [← hbe, List.length_take, List.length_drop]; omega
      have hk3 : HkD ls ⟨(at_ : Int), be, af⟩ := by
        refine ⟨⟨Int.natCast_nonneg _, by show (at_ : Int) + (be.length : Int) ≤ _; omega, ?_⟩, hne, ha8, by show be.length ≤ 10; omega⟩
        show (ls.drop at_).take be.length = be
        rw [← hbe, List.length_take, List.length_drop]
        by_cases hc : m ≤ ls.length - at_
        · rw [Nat.min_eq_left hc]
        · rw [Nat.min_eq_right (by omega), List.take_of_length_le (by rw [List.length_drop]; exact Nat.le_refl _), List.take_of_length_le (by rw [List.length_drop]; omega)]
      have sr : SameB r (upd G8 t (.tup [.int (at_ : Int), .ref b, .ref c])) (upd (upd G8 t (.tup [.int (at_ : Int), .ref b, .ref c])) r (.lst (ts.map V.ref ++ [.ref t]))) := SameB.at
      refine ⟨some (.int (0 + (i : Int))), some (.int (at_ : Int)), some (.ref b), some (.ref c), u10'', ts ++ [t], hks ++ [⟨(at_ : Int), be, af⟩], ys4, ?_, ⟨y1, y2, y3, upd_oth (ne_of_none hp hrn) (upd_new y4 ht), by rw [upd_same, List.map_append]; rfl, ?_, upd_oth y2.symm (upd_new y7 ht), y8.mono (by omega), (y9.trans (SameB.new ht)).wr y1⟩, ?_, asc_snoc hasc (by rw [hE]; show ((low : Nat) : Int) ≤ (at_ : Int); omega), by rw [List.length_append]; show _ + 1 ≤ _; omega⟩
      · rw [List.foldl_append, hE, List.length_map, ← Int.natCast_add]
        rfl
      · refine prd_app (prd_mono (fun _ _ g => RwAt.sameO (upd_new y5 ht) (fun _ z => nomatch z) sr (RwAt.same g (Same.new ht))) y6) (.cons ⟨b, c, upd_oth ntr upd_same, upd_oth nbr (upd_new hb8 ht), upd_oth ncr (upd_new hc8 ht)⟩ .nil)
      · intro h hh
        rcases List.mem_append.mp hh with z | z
        · exact hd h z
        · rw [List.mem_singleton.mp z]; exact hk3
    · rintro σ H1 ⟨u6, u7, u8, u9, u10, ts, hks, ys, rfl, X, hd, hasc, hln⟩
      exact q r ts hks ys H1 hrn X.2.2.2.2.1 X.2.2.2.2.2.1 hd hasc (by omega) X.2.2.2.2.2.2.1 (X.2.2.2.2.2.2.2.1.mono (by omega)) X.2.2.2.2.2.2.2.2
end
end Toy

namespace Toy
open PySem L2
local macro_rules | `(tactic| tm_at "w") => `(tactic| (conv => whnf))
local macro_rules | `(tactic| tm_at "fr") => `(tactic| first | assumption | exact upd_none (by assumption) | exact upd_none (upd_none (by assumption)) | exact upd_none (upd_none (upd_none (by assumption))) | exact upd_none (upd_none (upd_none (upd_none (by assumption)))))
local macro_rules | `(tactic| tm_at "ne") => `(tactic| first | assumption | (apply Ne.symm; assumption) | exact upd_none_ne (by assumption) | exact (upd_none_ne (by assumption)).symm | exact upd_none_ne (upd_none (by assumption)) | exact (upd_none_ne (upd_none (by assumption))).symm | exact upd_none_ne (upd_none (upd_none (by assumption))) | exact (upd_none_ne (upd_none (upd_none (by assumption)))).symm)
local macro_rules | `(tactic| tm_at "heap") => `(tactic| first | assumption | exact upd_same | (refine upd_new ?_ (by tm_at "fr"); tm_at "heap") | (refine upd_oth (by tm_at "ne") ?_; tm_at "heap") | (refine SameB.get (by assumption) (by tm_at "ne") ?_; tm_at "heap") | (refine Same.get (by assumption) ?_; tm_at "heap"))
local macro_rules | `(tactic| tm_at "sq") => `(tactic| first | assumption | exact SqL.of (by tm_at "heap") | exact SqT.of (by tm_at "heap"))
local macro_rules | `(tactic| tm_at "ix") => `(tactic| (conv => whnf); first | refine ⟨_, _, .inl (by tm_at "sq"), rfl, ?_⟩ | refine ⟨_, _, .inr (by tm_at "sq"), rfl, ?_⟩)
local macro_rules | `(tactic| tm_at "sb") => `(tactic| first | assumption | exact SameB.refl | (refine SameB.ws ?_; tm_at "sb") | (refine SameB.wr ?_ (by tm_at "fr"); tm_at "sb") | (refine SameB.trans ?_ (by assumption); tm_at "sb"))
/-! exact patches -/
theorem ofAsk {K : PySem.W.Frag} {ad : Ad} {H : Hp} {n : Str} {t : Addr} {as : List Addr} {cs : List Ch} {Q : VK} {E : XK} (ht : H t = some (.tup (as.map V.ref))) (hcs : ChsAt K ad H as cs) (hn : NameOk n) (hl : cs.length < 60) (hpl : ∀ c ∈ cs, c.path.length ≤ 100) (nd : (cs.map Ch.path).Nodup)
    (q : ∀ x H' cs', Same H H' → cs'.Perm cs → PyProof.Rows.sortedS (cs'.map Ch.path) = true → PtAt K ad H' x ⟨n, cs'⟩ → Q (.ref x) H') : spOf K ad [.ref ad.c_Patch, .str n, .ref t] H Q E :=
  ⟨n, t, as, cs, rfl, ht, hcs, hn, hl, hpl, fun p dp => (by rw [(dupP_none List.nodup_nil).mpr (by rw [List.nil_append]; exact nd)] at dp; cases dp), fun _ => q⟩
def ChD (fs : Fs) (m : Nat) : Ch → Prop
  | .base _ => False
  | .edit p hs => ∃ ls, getF fs p = some ls ∧ hs ≠ [] ∧ hs.length ≤ m ∧ Asc 0 hs ∧ ∀ h ∈ hs, HkD ls h
  | .create p ls => getF fs p = none ∧ (p = "new/a" ∨ p = "new/b") ∧ ls.length ≤ 3
  | .remove p ls => getF fs p = some ls
theorem ChD.ex {fs : Fs} {m : Nat} {c : Ch} (h : ChD fs m c) (hm : m ≤ 1000) : ExC fs c ∧ Bnd c := by
  cases c with
  | base p => exact h.elim
  | edit p hs =>
    obtain ⟨ls, h1, h2, h3, h4, h5⟩ := h
    exact ⟨⟨ls, h1, fun g hg => (h5 g hg).1, h4⟩, by omega, fun g hg => by have := (h5 g hg).2.2.1; omega⟩
  | create p ls => exact ⟨h.1, trivial⟩
  | remove p ls => exact ⟨h, trivial⟩
theorem okNA : PathOk "new/a" := ⟨by decide +kernel, by decide +kernel, by decide +kernel, by decide +kernel⟩
theorem okNB : PathOk "new/b" := ⟨by decide +kernel, by decide +kernel, by decide +kernel, by decide +kernel⟩
/-- the law's files -/
def FsD (fs : Fs) : Prop := FsOk fs ∧ fs.length ≤ 10 ∧ ∀ f ∈ fs, f.1 ≠ "new/a" ∧ f.1 ≠ "new/b" ∧ f.2.length ≤ 10 ^ 4
def spXp (K : PySem.W.Frag) (ad : Ad) : Sp := fun vs H Q _ => ∃ (s d : Addr) (n : Str) (words : Int) (fs : Fs) (k : Nat) (xs : List V), vs = [.ref s, .ref d, .str n, .int words] ∧ H s = some (.lst xs) ∧ SrcL k xs ∧ k < 2 ^ 30 ∧ DcL H d fs ∧ FsD fs ∧ NameOk n ∧ words ≤ 5 ∧
  ∀ (x : Addr) (cs : List Ch) (ys : List V) (H' : Hp), PtAt K ad H' x ⟨n, cs⟩ → (cs.map Ch.path).Nodup → PyProof.Rows.sortedS (cs.map Ch.path) = true → (∀ c ∈ cs, ChD fs 3 c ∧ PathOk c.path) → cs.length ≤ 12 → H' s = some (.lst ys) → SrcL (k + 1000) ys → SameB s H H' → Q (.ref x) H'
def XpI (K : PySem.W.Frag) (ad : Ad) (fs : Fs) (L : Hp) (s ch : Addr) (as : List Addr) (cs : List Ch) (i kk : Nat) (H' : Hp) (ys : List V) : Prop :=
  ch ≠ s ∧ H' ch = some (.lst (as.map V.ref)) ∧ ChsAt K ad H' as cs ∧ (cs.map Ch.path).Sublist ((fs.map Prod.fst).take i) ∧ (∀ c ∈ cs, ChD fs 3 c) ∧ H' s = some (.lst ys) ∧ SrcL kk ys ∧ SameB s L H'
theorem XpI.step {K : PySem.W.Frag} {ad : Ad} {fs : Fs} {L : Hp} {s ch : Addr} {as : List Addr} {cs : List Ch} {i kk k' : Nat} {H' H'' : Hp} {ys ys' : List V} (x : XpI K ad fs L s ch as cs i kk H' ys) (b : SameB s H' H'') (h : H'' s = some (.lst ys')) (hy : SrcL k' ys') : XpI K ad fs L s ch as cs i k' H'' ys' := by
  obtain ⟨x1, x2, x3, x4, x5, x6, x7, x8⟩ := x
  exact ⟨x1, b.get x1 x2, ChsAt.sameO x6 (fun _ _ _ _ z => nomatch z) (fun _ z => nomatch z) b x3, x4, x5, h, hy, x8.trans b⟩
theorem XpI.same {K : PySem.W.Frag} {ad : Ad} {fs : Fs} {L : Hp} {s ch : Addr} {as : List Addr} {cs : List Ch} {i kk : Nat} {H' H'' : Hp} {ys : List V} (x : XpI K ad fs L s ch as cs i kk H' ys) (b : Same H' H'') : XpI K ad fs L s ch as cs i kk H'' ys :=
  x.step (SameB.of b) (b _ _ x.2.2.2.2.2.1) x.2.2.2.2.2.2.1
theorem XpI.le {K : PySem.W.Frag} {ad : Ad} {fs : Fs} {L : Hp} {s ch : Addr} {as : List Addr} {cs : List Ch} {i j kk k' : Nat} {H' : Hp} {ys : List V} (x : XpI K ad fs L s ch as cs i kk H' ys) (hij : i ≤ j) (hk : kk ≤ k') : XpI K ad fs L s ch as cs j k' H' ys := by
  obtain ⟨x1, x2, x3, x4, x5, x6, x7, x8⟩ := x
  exact ⟨x1, x2, x3, x4.trans (List.take_sublist_take_left hij), x5, x6, x7.mono hk, x8⟩
/-- a change more -/
theorem XpI.add {K : PySem.W.Frag} {ad : Ad} {fs : Fs} {L : Hp} {s ch : Addr} {as : List Addr} {cs : List Ch} {i kk : Nat} {H' : Hp} {ys : List V} (x : XpI K ad fs L s ch as cs i kk H' ys) (hL : L ch = none) {a : Addr} {c : Ch} {ls : List Str} (ha : ChAt K ad H' a c) (hf : fs[i]? = some (c.path, ls)) (hc : ChD fs 3 c) :
    XpI K ad fs L s ch (as ++ [a]) (cs ++ [c]) (i + 1) kk (upd H' ch (.lst (as.map V.ref ++ [.ref a]))) ys := by
  obtain ⟨x1, x2, x3, x4, x5, x6, x7, x8⟩ := x
  have sb : SameB ch H' (upd H' ch (.lst (as.map V.ref ++ [.ref a]))) := SameB.at
  refine ⟨x1, by rw [upd_same, List.map_append]; rfl, prd_app (ChsAt.sameO x2 (fun _ _ _ _ z => nomatch z) (fun _ z => nomatch z) sb x3) (.cons (ChAt.sameO x2 (fun _ _ _ _ z => nomatch z) (fun _ z => nomatch z) sb ha) .nil), ?_, ?_, upd_oth x1.symm x6, x7, x8.wr hL⟩
  · rw [List.map_append, take_snoc (show (fs.map Prod.fst)[i]? = some c.path by rw [List.getElem?_map, hf]; rfl)]
    exact x4.append (List.Sublist.refl _)
  · intro c' hc'
    rcases List.mem_append.mp hc' with z | z
    · exact x5 c' z
    · rw [List.mem_singleton.mp z]; exact hc
theorem chD_bad {h : Hk} {ls : List Str} (g : HkD ls h) : h.bad = false := by
  unfold Hk.bad
  rw [decide_eq_false (by have := g.1.1; omega), decide_eq_false g.2.1]; rfl
section
variable {P : Program} {w : World} {K : PySem.W.Frag} {mg : Str → Option Value} {base : Heap} {ad : Ad}
set_option maxHeartbeats 8000000 in
theorem ok_law_exact_patch (T : Txt P K mg ad) : FnOk P w K mg base CX0 12 ad.a_law_exact_patch ad.d_law_exact_patch ["_law_source_here", "_law_files", "_law_name", "_law_words"] (spXp K ad) := by
  refine T.f_law_exact_patch.ok sc_law_exact_patch (fun vs H Q E h => ?_) (fun cdv A outer s H vs Q E hr h => ?_)
  · obtain ⟨s, d, n, words, fs, k, xs, rfl, _⟩ := h; rfl
  · obtain ⟨s, d, n, words, fs, k, xs, rfl, hs, hx, hk, ⟨kvs, h1, h2⟩, ⟨fo, fl, fd⟩, hn, hw, q⟩ := h
    refine ⟨_, pss_cons (ps_set (i := 4) sc_law_exact_patch.nd rfl (by first | exact Or.inl rfl | exact Or.inr rfl) (pe_lst pa_nil))
      (pss_cons (ps_lock (ps_for PassesOwn.never rfl (pi_keys (cv 1)) (pg_name (i := 5) sc_law_exact_patch.nd rfl (by first | exact Or.inl rfl | exact Or.inr rfl))
        (pss_cons (ps_set (i := 6) sc_law_exact_patch.nd rfl (by first | exact Or.inl rfl | exact Or.inr rfl) (pe_call (ok_law_draw T) (hr.mono (by decide)) rfl T.m_law_draw T.k_law_draw T.b_law_draw .nil pass0 (pa_cons (cv 0) (pa_cons pe_int pa_nil))))
        (pss_cons (ps_set (i := 7) sc_law_exact_patch.nd rfl (by first | exact Or.inl rfl | exact Or.inr rfl) (pe_call (ok_law_exact_hunks T) (hr.mono (by decide)) rfl T.m_law_exact_hunks T.k_law_exact_hunks T.b_law_exact_hunks .nil pass0 (pa_cons (cv 0) (pa_cons (pe_dget (hu_of hr) (cv 1) (cv 5) (fun _ _ => rfl)) (pa_cons (pe_op (oc_add (K := K)) pe_int (pe_call (ok_law_draw T) (hr.mono (by decide)) rfl T.m_law_draw T.k_law_draw T.b_law_draw .nil pass0 (pa_cons (cv 0) (pa_cons pe_int pa_nil)))) (pa_cons (cv 3) pa_nil))))))
        (pss_cons (PS.cut (cs_if (PW.pt (cw_and (ct_cmp oc_lt (cv 6) pe_int (nomark _)) (pw_and1 (ct_cmp (oc_neE (K := K) hr.units) (cv 7) (pe_lst pa_nil) (nomark _)))))
          (pss_one (ps_expr (pe_bm PySem.F.plainAttrs_list PySem.F.slot_list_append PySem.F.type_list_append (mc_append) (cv 4) (pa_cons (pe_make T.mk_Edit (ok_Edit_XinitX T) (hr.mono (by decide)) rfl T.mg_Edit T.b_Edit_XinitX .nil passL (pa_cons (cv 5) (pa_cons (pe_callTy (cc_tuple (K := K)) (by rfl) T.n_tuple (by decide +kernel) (pa_cons (pe_lc (own := [("_law_at", 8), ("_law_before", 9), ("_law_after", 10)]) (g := gTup K 3 (gCons (gName 8) (gCons (gName 9) (gCons (gName 10) (gNil))))) (by rfl) sc_law_exact_patch.nd  (pic_seq (K := K) (cv 7)) (blkOk_by (own := [("_law_at", 8), ("_law_before", 9), ("_law_after", 10)]) (N := N_law_exact_patch) (sc := defScope s_law_exact_patch) (by decide +kernel)) (fun _ _ _ _ _ => pg_tup rfl (pgs_cons (pg_name (i := 8) sc_law_exact_patch.nd rfl (by first | exact Or.inl rfl | exact Or.inr rfl)) (pgs_cons (pg_name (i := 9) sc_law_exact_patch.nd rfl (by first | exact Or.inl rfl | exact Or.inr rfl)) (pgs_cons (pg_name (i := 10) sc_law_exact_patch.nd rfl (by first | exact Or.inl rfl | exact Or.inr rfl)) pgs_nil)))) (fun _ _ _ _ _ => pts_nil) (fun _ _ _ _ _ => pe_make T.mk_Hunk (ok_Hunk_XinitX T) (hr.mono (by decide)) rfl T.mg_Hunk T.b_Hunk_XinitX .nil passL (pa_cons (cv 8) (pa_cons (cv 9) (pa_cons (cv 10) pa_nil))))) pa_nil)) pa_nil))) pa_nil))))
          pss_nil))
        (pss_one (cs_if (ct_cmp (oc_eq (K := K) hr.units) (cv 6) pe_int (nomark _))
          (pss_one (ps_expr (pe_bm PySem.F.plainAttrs_list PySem.F.slot_list_append PySem.F.type_list_append (mc_append) (cv 4) (pa_cons (pe_make T.mk_Remove (ok_Remove_XinitX T) (hr.mono (by decide)) rfl T.mg_Remove T.b_Remove_XinitX .nil pass0 (pa_cons (cv 5) (pa_cons (pe_callTy (cc_tuple (K := K)) (by rfl) T.n_tuple (by decide +kernel) (pa_cons (pe_dget (hu_of hr) (cv 1) (cv 5) (fun _ _ => rfl)) pa_nil)) pa_nil))) pa_nil))))
          pss_nil)))))))
      (pss_cons (ps_for PassesOwn.never rfl (pic_seq (K := K) (pe_tup (pa_cons pe_str (pa_cons pe_str pa_nil)))) (pg_name (i := 5) sc_law_exact_patch.nd rfl (by first | exact Or.inl rfl | exact Or.inr rfl))
        (pss_one (cs_if (PW.pt (cw_and (ct_cmp (oc_dnotin hr.units) (cv 5) (cv 1) rfl) (pw_and1 (ct_cmp (oc_eq (K := K) hr.units) (pe_call (ok_law_draw T) (hr.mono (by decide)) rfl T.m_law_draw T.k_law_draw T.b_law_draw .nil pass0 (pa_cons (cv 0) (pa_cons pe_int pa_nil))) pe_int (nomark _)))))
          (pss_one (ps_expr (pe_bm PySem.F.plainAttrs_list PySem.F.slot_list_append PySem.F.type_list_append (mc_append) (cv 4) (pa_cons (pe_make T.mk_Create (ok_Create_XinitX T) (hr.mono (by decide)) rfl T.mg_Create T.b_Create_XinitX .nil pass0 (pa_cons (cv 5) (pa_cons (pe_callTy (cc_tuple (K := K)) (by rfl) T.n_tuple (by decide +kernel) (pa_cons (pe_call (ok_law_some_lines T) (hr.mono (by decide)) rfl T.m_law_some_lines T.k_law_some_lines T.b_law_some_lines .nil pass0 (pa_cons (cv 0) (pa_cons pe_int (pa_cons (cv 3) pa_nil)))) pa_nil)) pa_nil))) pa_nil))))
          pss_nil)))
      (pss_one (ps_ret (pe_cmS (pe_glob (v := .ref ad.c_Patch) rfl T.mg_Patch rfl) T.cr_Patch T.cm_Patch_of (FnOk.r (ok_Patch_of T) T.b_Patch_of) (hr.mono (by decide)) (E := fun _ => E0) (fun σ => passLS σ) (pa_cons (cv 2) (pa_cons (pe_callTy (cc_tuple (K := K)) (by rfl) T.n_tuple (by decide +kernel) (pa_cons (cv 4) pa_nil)) pa_nil))))))), ?_⟩
    refine ⟨Nat.zero_le _, fun ch hch => ?_⟩
    have ncd : d ≠ ch := ne_of_none h1 hch
    have ncs : s ≠ ch := ne_of_none hs hch
    refine ⟨d, _, upd_new h1 hch, trivial, fun od => ?_⟩
    refine ⟨d, od, rfl, .inl ⟨kvs, upd_same, ?_⟩⟩
    have eL : upd (upd H ch (.lst [])) d (.frz od (.dK kvs)) = upd (upd H d (.frz od (.dK kvs))) ch (.lst []) := by
      funext b
      by_cases z : b = d
      · subst z; rw [upd_same, upd_ne ncd, upd_same]
      · by_cases z2 : b = ch
        · subst z2; rw [upd_ne z, upd_same, upd_same]
        · rw [upd_ne z, upd_ne z2, upd_ne z2, upd_ne z]
    rw [eL]
    have nsd : s ≠ d := fun z => by subst z; rw [hs] at h1; cases h1
    generalize hL : upd H d (HO.frz od (.dK kvs)) = L
    have Ls : L s = some (.lst xs) := by rw [← hL]; exact upd_oth nsd hs
    have Ld : L d = some (.frz od (.dK kvs)) := by rw [← hL]; exact upd_same
    have Lch : L ch = none := by rw [← hL, upd_ne ncd.symm]; exact hch
    have LF : FlR (RLst L) kvs fs := h2.mono fun v ls ⟨p, e, hp⟩ => ⟨p, e, by rw [← hL]; exact upd_oth (fun z => by subst z; rw [h1] at hp; cases hp) hp⟩
    refine for_it (walk_keysF h2) (fun i σ H' => ∃ (u5 u6 u7 u8 u9 u10 : Option V) (as : List Addr) (cs : List Ch) (ys : List V), σ = [some (.ref s), some (.ref d), some (.str n), some (.int words), some (.ref ch), u5, u6, u7, u8, u9, u10] ∧ XpI K ad fs L s ch as cs i (k + 70 * i) H' ys)
      ⟨_, _, _, _, _, _, [], [], xs, rfl, ncs.symm, upd_same, .nil, List.nil_sublist _, (fun _ h => (nomatch h)), upd_new Ls Lch, hx.mono (by omega), SameB.new Lch⟩ (fun i σ H' _ ⟨_, _, _, _, _, _, _, _, _, _, X⟩ => X.2.2.2.2.2.2.2.get nsd.symm Ld) ?_ ?_
    · rintro i x σ H1 H2 hi ⟨u5, u6, u7, u8, u9, u10, as, cs, ys, rfl, X⟩ ⟨rfl, p, ls, ef, rfl⟩
      have hmem := List.mem_of_getElem? ef
      obtain ⟨fd1, fd2, fd3⟩ := fd _ hmem
      have fd3 : ls.length ≤ 10 ^ 4 := fd3
      have hgf := getF_of_mem fo.1 hmem
      have hpo := fo.2.1 _ hmem
      refine ⟨s, _, _, ys, rfl, X.2.2.2.2.2.1, X.2.2.2.2.2.2.1, by omega, by decide, by decide, fun way ys1 hw0 hw1 hy1 => ?_⟩
      have X1 := X.step (SameB.at (o := .lst ys1)) upd_same hy1
      generalize upd _ s (HO.lst ys1) = G1 at X1 ⊢
      obtain ⟨v, hv, u, rfl, hu⟩ := LF.of_some hgf
      have nus : u ≠ s := src_ne Ls hx hu
      refine ⟨d, _, rfl, hv ▸ (.inl ⟨kvs, Sum.inr p, .inr ⟨od, X1.2.2.2.2.2.2.2.get nsd.symm Ld⟩, rfl, rfl⟩ : DGet G1 d (.str p) (valV kvs (Sum.inr p))), ?_⟩
      refine ⟨s, _, _, ys1, rfl, X1.2.2.2.2.2.1, hy1, by omega, by decide, by decide, fun d3 ys2 hd0 hd1 hy2 => ?_⟩
      have X2 := X1.step (SameB.at (o := .lst ys2)) upd_same hy2
      generalize upd G1 s (HO.lst ys2) = G2 at X2 ⊢
      refine ⟨s, u, ls, _, words, _, ys2, rfl, X2.2.2.2.2.2.1, hy2, by omega, X2.2.2.2.2.2.2.2.get nus hu, by omega, by omega, by omega, hw, fun rq ts hs' ys3 G3 hrq hr3 hrw hkd hasc hlen h3 hy3 b3 => ?_⟩
      have X3 := X2.step b3 h3 hy3
      have X3 : XpI K ad fs L s ch as cs i (k + 70 * (i + 1)) G3 ys3 := X3.le (Nat.le_refl _) (by omega)
      have hcl : cs.length ≤ 10 := by
        have e1 := X3.2.2.2.1.length_le
        rw [List.length_map, List.length_take, List.length_map] at e1; omega
      refine ⟨fun σ' H' => ∃ (u8 u9 u10 : Option V) (as : List Addr) (cs : List Ch), σ' = [some (.ref s), some (.ref d), some (.str n), some (.int words), some (.ref ch), some (.str p), some (.int way), some (.ref rq), u8, u9, u10] ∧ XpI K ad fs L s ch as cs (if way = 3 then i else i + 1) (k + 70 * (i + 1)) H' ys3 ∧ cs.length ≤ 11, ?_, ?_⟩
      · have no : ∀ G, Same G3 G → ∃ (u8' u9' u10' : Option V) (as : List Addr) (cs : List Ch), [some (V.ref s), some (.ref d), some (.str n), some (.int words), some (.ref ch), some (.str p), some (.int way), some (.ref rq), u8, u9, u10] = [some (.ref s), some (.ref d), some (.str n), some (.int words), some (.ref ch), some (.str p), some (.int way), some (.ref rq), u8', u9', u10'] ∧ XpI K ad fs L s ch as cs (if way = 3 then i else i + 1) (k + 70 * (i + 1)) G ys3 ∧ cs.length ≤ 11 :=
          fun G sG => ⟨u8, u9, u10, as, cs, rfl, (X3.same sG).le (by split <;> omega) (Nat.le_refl _), by omega⟩
        refine ⟨fun hw3 => ?_, fun hw3 => .f (no _ (Same.refl _))⟩
        have hw3 : way < 3 := of_decide_eq_true hw3
        refine ⟨Nat.zero_le _, fun e he => ?_⟩
        have sE : Same G3 (upd G3 e (.lst [])) := Same.new he
        refine ⟨_, _, _, _, rfl, rfl, SqL.of (sE _ _ hr3), SqL.of upd_same, .inr rfl, ?_⟩
        generalize upd G3 e (HO.lst []) = G4 at sE ⊢
        refine ⟨fun hne => ?_, fun hne => no _ sE⟩
        have hne : hs' ≠ [] := by
          intro z
          have e1 := prd_len hrw
          rw [z] at e1
          rw [List.length_map, e1] at hne
          exact absurd hne (by decide)
        have X4 := X3.same sE
        refine ⟨.inl ⟨rfl, _, SqL.of X4.2.1⟩, ?_⟩
        refine .inl ⟨rq, rfl, ⟨_, SqL.of (sE _ _ hr3)⟩, fun D hD => ?_⟩
        have hlt : ts.length = hs'.length := prd_len hrw
        refine lc_fl (walk_list (xs := ts.map V.ref)) (fun _ => true) (fun y h H' => ∃ a, y = .ref a ∧ HkAt K ad H' a h) (xs := hs') (by rw [List.length_map, hlt]) (fun y h H3 H4 acc hD3 s3 ⟨a, e1, dx, b, c, g1, g2, g3⟩ => ⟨a, e1, dx, b, c, s3.get (fun z => by subst z; rw [hD3] at g1; cases g1) g1, s3.get (fun z => by subst z; rw [hD3] at g2; cases g2) g2, s3.get (fun z => by subst z; rw [hD3] at g3; cases g3) g3⟩) hD (by rw [List.length_map, hlt]; omega) (fun H3 s3 => SqL.of (s3 _ _ (sE _ _ hr3))) ?_ ?_
        · rintro j h x H3 H4 Nx Nz eh s3 ⟨rfl, hx⟩ k1 _
          rw [List.getElem?_map] at hx
          obtain ⟨t, et, rfl⟩ := Option.map_eq_some_iff.mp hx
          obtain ⟨h', eh', b, c, z1, z2, z3⟩ := prd_get (prd_mono (fun _ _ g => RwAt.same g (sE.trans s3)) hrw) et
          rw [eh] at eh'
          cases eh'
          have hh := hkd h (List.mem_of_getElem? eh)
          refine ⟨t, _, rfl, SqT.of z1, rfl, ?_⟩
          refine ⟨_, _, rfl, _, _, rfl, _, _, rfl, rfl, rfl, ?_⟩
          intro x dx hx hdx _
          have s0 := mkn_same (o1 := .own x) (o2 := .ins ad.c_Hunk dx []) hx hdx
          refine ⟨x, dx, b, c, h, rfl, upd_same, s0 _ _ z2, s0 _ _ z3, by have := hh.1.1; have := hh.1.2.1; omega, fun e => (by rw [chD_bad hh] at e; cases e), fun _ H7 s7 h7 => ⟨rfl, ?_⟩⟩
          have s8 := mk_same hx hdx s7
          exact k1 rfl _ _ s8 ⟨x, rfl, dx, b, c, h7, s8 _ _ z2, s8 _ _ z3⟩
        intro H3 yv pr s3 hD3
        obtain ⟨hks, rfl, pr'⟩ := refsP pr
        rw [List.filter_eq_self.mpr (fun _ _ => rfl)] at pr'
        refine ⟨_, .inl ⟨SqL.of hD3, fun tp htp => ?_⟩⟩
        have s5 := s3.trans (Same.new (o := .tup (hks.map V.ref)) htp)
        intro x dx hx hdx _
        have s0 := mkn_same (o1 := .own x) (o2 := .ins ad.c_Edit dx []) hx hdx
        have fb := asc_firstBad hasc hne fun g hg => (hkd g hg).1.1
        have hks5 : HksAt K ad (upd H3 tp (.tup (hks.map V.ref))) hks hs' := HksAt.same pr' (Same.new htp)
        refine ⟨x, dx, tp, p, hks, hs', rfl, upd_same, hpo, s0 _ _ upd_same, hks5.same s0, by omega, fun i z => absurd (z.uniq fb) (fun z => nomatch z), fun _ H6 s6 h6 => ⟨rfl, ?_⟩⟩
        have s7 := mk_same hx hdx s6
        have s8 := s5.trans s7
        have X6 := X4.same s8
        refine ⟨_, X6.2.1, by rw [List.length_map, prd_len X6.2.2.1, sizeLine_eq]; omega, ?_⟩
        refine ⟨_, _, _, as ++ [x], cs ++ [.edit p hs'], rfl, ?_, by rw [List.length_append]; show _ + 1 ≤ _; omega⟩
        rw [if_neg (by omega)]
        exact X6.add (c := .edit p hs') Lch ⟨dx, tp, hks, h6, s7 _ _ upd_same, hks5.same s7⟩ ef ⟨ls, hgf, hne, by omega, hasc, hkd⟩
      clear X3 hcl hr3 hrw hkd hasc hlen h3 b3 hrq X2 X1 X
      rintro σ' G4 ⟨u8', u9', u10', as', cs', rfl, X4, hcl⟩
      refine ⟨fun hw3 => ?_, fun hw3 => ?_⟩
      · have hw3 : way = 3 := of_decide_eq_true hw3
        rw [if_pos hw3] at X4
        refine ⟨.inl ⟨rfl, _, SqL.of X4.2.1⟩, ?_⟩
        refine ⟨d, _, rfl, hv ▸ (.inl ⟨kvs, Sum.inr p, .inr ⟨od, X4.2.2.2.2.2.2.2.get nsd.symm Ld⟩, rfl, rfl⟩ : DGet G4 d (.str p) (valV kvs (Sum.inr p))), ?_⟩
        refine ⟨_, .inl ⟨SqL.of (X4.2.2.2.2.2.2.2.get nus hu), fun tp htp => ?_⟩⟩
        have s5 : Same G4 (upd G4 tp (.tup (ls.map V.str))) := Same.new htp
        intro x dx hx hdx _
        have s0 := mkn_same (o1 := .own x) (o2 := .ins ad.c_Remove dx []) hx hdx
        refine ⟨x, dx, tp, p, rfl, upd_same, hpo, fun H6 s6 h6 => ⟨rfl, ?_⟩⟩
        have s7 := mk_same hx hdx s6
        have X6 := X4.same (s5.trans s7)
        refine ⟨_, X6.2.1, by rw [List.length_map, prd_len X6.2.2.1, sizeLine_eq]; omega, ?_⟩
        exact ⟨_, _, _, _, _, _, as' ++ [x], cs' ++ [.remove p ls], ys3, rfl, X6.add (c := .remove p ls) Lch ⟨dx, tp, h6, s7 _ _ upd_same⟩ ef hgf⟩
      · have hw3 : ¬ way = 3 := of_decide_eq_false hw3
        rw [if_neg hw3] at X4
        exact ⟨_, _, _, _, _, _, as', cs', ys3, rfl, X4⟩
    · rintro σ H1 ⟨u5, u6, u7, u8, u9, u10, as, cs, ys, rfl, X⟩
      refine ⟨X.2.2.2.2.2.2.2.get nsd.symm Ld, ?_⟩
      obtain ⟨x1, x2, x3, x4, x5, x6, x7, x8⟩ := X
      have hd1 : H1 d = some (.frz od (.dK kvs)) := x8.get nsd.symm Ld
      have sB : SameB s H (upd H1 d (.dK kvs)) := by rw [← hL] at x8; exact SameB.unlock h1 x8
      have c2 : (upd H1 d (.dK kvs)) ch = some (.lst (as.map V.ref)) := upd_oth ncd.symm x2
      have c3 : ChsAt K ad (upd H1 d (.dK kvs)) as cs := ChsAt.sameO hd1 (fun _ _ _ _ z => nomatch z) (fun _ z => nomatch z) SameB.at x3
      have c6 : (upd H1 d (.dK kvs)) s = some (.lst ys) := upd_oth nsd x6
      have cd : (upd H1 d (.dK kvs)) d = some (.dK kvs) := upd_same
      generalize upd H1 d (HO.dK kvs) = G at sB c2 c3 c6 cd ⊢
      rw [List.take_of_length_le (by rw [List.length_map]; exact Nat.le_refl _)] at x4
      clear x2 x3 x6 x8 hd1 hL Ls Ld Lch LF
      have ndf : (fs.map Prod.fst).Nodup := fo.1
      have hcl : cs.length ≤ 10 := by
        have e1 := x4.length_le
        rw [List.length_map, List.length_map] at e1; omega
      refine .inr ⟨by show 2 ≤ sizeLine; decide, fun pq hpq => ⟨pq, rfl, ⟨_, SqT.of upd_same⟩, ?_⟩⟩
      have sG : Same G (upd G pq (.tup [.str "new/a", .str "new/b"])) := Same.new hpq
      have hq0 : (upd G pq (.tup [.str "new/a", .str "new/b"])) pq = some (.tup ((["new/a", "new/b"] : List Str).map V.str)) := upd_same
      generalize upd G pq (HO.tup [.str "new/a", .str "new/b"]) = G0 at sG hq0 ⊢
      have npqs : pq ≠ s := fun z => by subst z; rw [sG _ _ c6] at hq0; cases hq0
      refine for_tup (K := K) (a := pq) (xs := (["new/a", "new/b"] : List Str).map V.str) (fun i σ H' => ∃ (u5 u6 u7 u8 u9 u10 : Option V) (as : List Addr) (cs : List Ch) (ys : List V), σ = [some (.ref s), some (.ref d), some (.str n), some (.int words), some (.ref ch), u5, u6, u7, u8, u9, u10] ∧ H' ch = some (.lst (as.map V.ref)) ∧ ChsAt K ad H' as cs ∧ (cs.map Ch.path).Nodup ∧ (∀ c ∈ cs, ChD fs 3 c ∧ PathOk c.path ∧ (c.path ∈ fs.map Prod.fst ∨ c.path ∈ (["new/a", "new/b"] : List Str).take i)) ∧ cs.length ≤ 10 + i ∧ H' s = some (.lst ys) ∧ SrcL (k + 700 + 20 * i) ys ∧ SameB s H H' ∧ H' pq = some (.tup ((["new/a", "new/b"] : List Str).map V.str)) ∧ H' d = some (.dK kvs))
        ⟨_, _, _, _, _, _, as, cs, ys, rfl, sG _ _ c2, c3.same sG, x4.nodup ndf, fun c hc => ⟨x5 c hc, ?_, .inl (x4.subset (List.mem_map_of_mem hc))⟩, by omega, sG _ _ c6, x7.mono (by omega), sB.trans (SameB.of sG), hq0, sG _ _ cd⟩ (fun i σ H' _ ⟨_, _, _, _, _, _, _, _, _, _, _, _, _, _, _, _, _, _, h, _⟩ => SqT.of h) ?_ ?_
      · obtain ⟨f, hf, e⟩ := List.mem_map.mp (x4.subset (List.mem_map_of_mem hc))
        rw [← e]; exact fo.2.1 f hf
      · rintro i x σ H2 hx ⟨u5, u6, u7, u8, u9, u10, as, cs, ys, rfl, y1, y2, y3, y4, y5, y6, y7, y8, y9, y10⟩
        rw [List.getElem?_map] at hx
        obtain ⟨p, ep, rfl⟩ := Option.map_eq_some_iff.mp hx
        have hi2 : i < 2 := (List.getElem?_eq_some_iff.mp ep).1
        have hpm : p ∈ (["new/a", "new/b"] : List Str) := List.mem_of_getElem? ep
        have hpp : p = "new/a" ∨ p = "new/b" := by
          rcases List.mem_cons.mp hpm with z | z
          · exact .inl z
          · exact .inr (List.mem_singleton.mp z)
        have hnk : p ∉ fs.map Prod.fst := by
          intro z
          obtain ⟨f, hf, e⟩ := List.mem_map.mp z
          obtain ⟨g1, g2, _⟩ := fd f hf
          rcases hpp with z | z
          · exact g1 (e.trans z)
          · exact g2 (e.trans z)
        have ndp : (["new/a", "new/b"] : List Str).Nodup := by decide +kernel
        have hnc : p ∉ cs.map Ch.path := by
          intro z
          obtain ⟨c, hc, e⟩ := List.mem_map.mp z
          rcases (y4 c hc).2.2 with z2 | z2
          · exact hnk (e ▸ z2)
          · rw [e] at z2
            rw [drop_at ep] at ndp
            exact (List.nodup_append.mp ndp).2.2 _ z2 _ List.mem_cons_self rfl
        have keep : ∀ c ∈ cs, ChD fs 3 c ∧ PathOk c.path ∧ (c.path ∈ fs.map Prod.fst ∨ c.path ∈ (["new/a", "new/b"] : List Str).take (i + 1)) := fun c hc => ⟨(y4 c hc).1, (y4 c hc).2.1, (y4 c hc).2.2.elim .inl fun z => .inr (List.take_subset_take_left _ (Nat.le_succ i) z)⟩
        refine ⟨kvs, y10, ?_⟩
        refine .tl (by rw [h2.isSome, decide_eq_false hnk]; rfl) ?_
        refine ⟨s, _, _, ys, rfl, y6, y7, by omega, by decide, by decide, fun d5 ys1 hd0 hd1 hy1 => ?_⟩
        have ncs' : ch ≠ s := ncs.symm
        have z1 := upd_oth (H := H2) (o := .lst ys1) ncs' y1
        have z2 : ChsAt K ad (upd H2 s (.lst ys1)) as cs := ChsAt.sameO y6 (fun _ _ _ _ z => nomatch z) (fun _ z => nomatch z) SameB.at y2
        have z6 : (upd H2 s (.lst ys1)) s = some (.lst ys1) := upd_same
        have z8 : SameB s H (upd H2 s (.lst ys1)) := y8.ws
        have z9 := upd_oth (H := H2) (o := .lst ys1) npqs y9
        have z10 := upd_oth (H := H2) (o := .lst ys1) nsd.symm y10
        generalize upd H2 s (HO.lst ys1) = G2 at z1 z2 z6 z8 z9 z10 ⊢
        clear y1 y2 y6 y8 y9 y10
        refine ⟨fun h0 => ?_, fun h0 => ⟨_, _, _, _, _, _, as, cs, ys1, rfl, z1, z2, y3, keep, by omega, z6, hy1.mono (by omega), z8, z9, z10⟩⟩
        refine ⟨.inl ⟨rfl, _, SqL.of z1⟩, ?_⟩
        refine ⟨s, 3, words, _, ys1, rfl, z6, hy1, by omega, by decide, by decide, by omega, fun ls p1 ys2 G3 hl1 hw1 hp1 k1 k2 k3 b3 => ?_⟩
        refine ⟨_, .inl ⟨SqL.of k1, fun lt hlt => ?_⟩⟩
        have s4 : Same G3 (upd G3 lt (.tup (ls.map V.str))) := Same.new hlt
        intro x dx hx hdx _
        have s0 := mkn_same (o1 := .own x) (o2 := .ins ad.c_Create dx []) hx hdx
        have hpo : PathOk p := by
          rcases hpp with z | z
          · rw [z]; exact okNA
          · rw [z]; exact okNB
        refine ⟨x, dx, lt, p, rfl, upd_same, hpo, fun H6 s6 h6 => ⟨rfl, ?_⟩⟩
        have s7 := mk_same hx hdx s6
        have b6 : SameB s G2 H6 := b3.trans (SameB.of (s4.trans s7))
        have w1 := b6.get ncs' z1
        refine ⟨_, w1, by rw [List.length_map, prd_len z2, sizeLine_eq]; omega, ?_⟩
        have sc : SameB ch H6 (upd H6 ch (.lst (as.map V.ref ++ [.ref x]))) := SameB.at
        have w2 : ChsAt K ad H6 as cs := ChsAt.sameO z6 (fun _ _ _ _ z => nomatch z) (fun _ z => nomatch z) b6 z2
        have npc : pq ≠ ch := fun z => by subst z; rw [z9] at z1; cases z1
        refine ⟨_, _, _, _, _, _, as ++ [x], cs ++ [.create p ls], ys2, rfl, by rw [upd_same, List.map_append]; rfl, prd_app (ChsAt.sameO w1 (fun _ _ _ _ z => nomatch z) (fun _ z => nomatch z) sc w2) (.cons (ChAt.sameO w1 (fun _ _ _ _ z => nomatch z) (fun _ z => nomatch z) sc (show ChAt K ad H6 x (.create p ls) from ⟨dx, lt, h6, s7 _ _ upd_same⟩)) .nil), ?_, ?_, by rw [List.length_append]; show _ + 1 ≤ _; omega,
          upd_oth ncs (s7 _ _ (s4 _ _ k2)), k3.mono (by show _ ≤ _; omega), ((z8.trans b6).trans (SameB.refl)).wr hch, upd_oth npc (b6.get npqs z9), upd_oth ncd (b6.get nsd.symm z10)⟩
        · rw [List.map_append]
          exact nodup_snoc y3 hnc
        · intro c hc
          rcases List.mem_append.mp hc with z | z
          · exact keep c z
          · rw [List.mem_singleton.mp z]
            refine ⟨⟨getF_none.mpr hnk, hpp, by omega⟩, hpo, .inr ?_⟩
            rw [take_snoc ep]; exact List.mem_append_right _ List.mem_cons_self
      · rintro σ H2 ⟨u5, u6, u7, u8, u9, u10, as, cs, ys, rfl, y1, y2, y3, y4, y5, y6, y7, y8, y9, y10⟩
        refine ⟨rfl, ?_⟩
        refine ⟨_, .inl ⟨SqL.of y1, fun t ht => ?_⟩⟩
        have s2 : Same H2 (upd H2 t (.tup (as.map V.ref))) := Same.new ht
        have y5 : cs.length ≤ 12 := y5
        refine ofAsk upd_same (ChsAt.same y2 s2) hn (by omega) (fun c hc => (y4 c hc).2.1.2.1) y3 fun x H3 cs' s3 pm srt M => ?_
        exact q x cs' ys H3 M ((pm.map Ch.path).nodup_iff.mpr y3) srt (fun c hc => ⟨(y4 c (pm.mem_iff.mp hc)).1, (y4 c (pm.mem_iff.mp hc)).2.1⟩) (by rw [pm.length_eq]; exact y5) ((s2.trans s3) _ _ y6) (y7.mono (by show k + 700 + 20 * 2 ≤ _; omega)) (y8.trans (SameB.of (s2.trans s3)))
end
end Toy

namespace Toy
open PySem L2
local macro_rules | `(tactic| tm_at "w") => `(tactic| (conv => whnf))
local macro_rules | `(tactic| tm_at "fr") => `(tactic| first | assumption | exact upd_none (by assumption) | exact upd_none (upd_none (by assumption)) | exact upd_none (upd_none (upd_none (by assumption))) | exact upd_none (upd_none (upd_none (upd_none (by assumption)))))
local macro_rules | `(tactic| tm_at "ne") => `(tactic| first | assumption | (apply Ne.symm; assumption) | exact upd_none_ne (by assumption) | exact (upd_none_ne (by assumption)).symm | exact upd_none_ne (upd_none (by assumption)) | exact (upd_none_ne (upd_none (by assumption))).symm | exact upd_none_ne (upd_none (upd_none (by assumption))) | exact (upd_none_ne (upd_none (upd_none (by assumption)))).symm)
local macro_rules | `(tactic| tm_at "heap") => `(tactic| first | assumption | exact upd_same | (refine upd_new ?_ (by tm_at "fr"); tm_at "heap") | (refine upd_oth (by tm_at "ne") ?_; tm_at "heap") | (refine SameB.get (by assumption) (by tm_at "ne") ?_; tm_at "heap") | (refine Same.get (by assumption) ?_; tm_at "heap"))
local macro_rules | `(tactic| tm_at "sq") => `(tactic| first | assumption | exact SqL.of (by tm_at "heap") | exact SqT.of (by tm_at "heap"))
local macro_rules | `(tactic| tm_at "ix") => `(tactic| (conv => whnf); first | refine ⟨_, _, .inl (by tm_at "sq"), rfl, ?_⟩ | refine ⟨_, _, .inr (by tm_at "sq"), rfl, ?_⟩)
local macro_rules | `(tactic| tm_at "sb") => `(tactic| first | assumption | exact SameB.refl | (refine SameB.ws ?_; tm_at "sb") | (refine SameB.wr ?_ (by tm_at "fr"); tm_at "sb") | (refine SameB.trans ?_ (by assumption); tm_at "sb"))
/-! what == says of the files of trees, of trees -/
def DTi (K : PySem.W.Frag) (D : EqvB) : EqvB := fun x y H b => DTp K D x y H b ∧ ∃ a c, x = .ref a ∧ y = .ref c ∧ (a = c → b = true)
theorem monTp {K : PySem.W.Frag} {D : EqvB} (hD : MonB D) : MonB (DTp K D) := fun x y H H' b ex d => by
  obtain ⟨a, c, xs, ys, e, hx, hy, h1, h2, p, hb⟩ := d
  exact ⟨a, c, xs, ys, e, hx, hy, Same.seqT ex h1, Same.seqT ex h2, p.mon hD ex, hb⟩
theorem monTi {K : PySem.W.Frag} {D : EqvB} (hD : MonB D) : MonB (DTi K D) := fun x y H H' b e ⟨h1, h2⟩ => ⟨monTp hD x y H H' b e h1, h2⟩
def DVl (K : PySem.W.Frag) : EqvB := fun x y H b => DFl x y H b ∨ DTi K DFl x y H b
section
variable {X : Cx} {n : Nat} {ne : Bool}
theorem eqB_ti {D : EqvB} (hD : MonB D) (h : EqB X n D) : EqB X (n + 1) (DTi X.K D) := RcB.eqB (RcB.imp (rcB_tup hD h) fun _ _ _ _ h => h.1) fun _ _ _ _ h => h.2
theorem rcB_filesK {K : PySem.W.Frag} (hK : X.K = K := by rfl) : RcB X 3 ne (DTp K (DTi K (DVl K))) := by
  subst hK
  exact rcB_tup (monTi (MonB.or monB_flat (monTi monB_flat))) (eqB_ti (MonB.or monB_flat (monTi monB_flat)) (EqB.or (eqB_flat.mono (Nat.zero_le _)) (eqB_ti monB_flat eqB_flat)))
end
theorem dTi_strs {K : PySem.W.Frag} {H : Hp} {p q : Addr} {xs ys : List Str} (hp : H p = some (.tup (xs.map V.str))) (hq : H q = some (.tup (ys.map V.str))) : DTi K DFl (.ref p) (.ref q) H (decide (xs = ys)) :=
  ⟨dStrs (SqT.of hp) (SqT.of hq), p, q, rfl, rfl, fun e => by subst e; rw [hp] at hq; exact decide_eq_true (strs_inj (HO.tup.inj (Option.some.inj hq)))⟩
theorem dPf {K : PySem.W.Frag} {H : Hp} {t u : Addr} {f g : Str × List Str} (h : PfAt H t f) (h' : PfAt H u g) : DTi K (DVl K) (.ref t) (.ref u) H (decide (f = g)) := by
  obtain ⟨p, h1, h2⟩ := h
  obtain ⟨q, g1, g2⟩ := h'
  have e : decide (f = g) = ((List.range 2).all (fun i => if i = 0 then decide (f.1 = g.1) else decide (f.2 = g.2)) && (2 : Nat) == 2) := by
    obtain ⟨a, b⟩ := f
    obtain ⟨c, d⟩ := g
    rw [show List.range 2 = [0, 1] from rfl]
    by_cases z : a = c <;> by_cases w : b = d <;> simp [z, w]
  refine ⟨⟨t, u, _, _, fun i => if i = 0 then decide (f.1 = g.1) else decide (f.2 = g.2), rfl, rfl, SqT.of h1, SqT.of g1, fun i x y hx hy => ?_, e⟩, t, u, rfl, rfl, fun z => ?_⟩
  · match i, hx, hy with
    | 0, hx, hy =>
      cases hx; cases hy
      refine .inl ⟨rfl, rfl, ?_⟩
      show decide (f.1 = g.1) = (f.1 == g.1)
      by_cases z : f.1 = g.1 <;> simp [z]
    | 1, hx, hy =>
      cases hx; cases hy
      exact .inr (dTi_strs h2 g2)
  · subst z
    rw [h1] at g1
    have e1 := HO.tup.inj (Option.some.inj g1)
    injection e1 with e1 e2
    injection e2 with e2 _
    injection e1 with e1
    injection e2 with e2
    subst e2
    rw [h2] at g2
    have e3 := strs_inj (HO.tup.inj (Option.some.inj g2))
    exact decide_eq_true (Prod.ext e1 e3)
theorem dFiles {K : PySem.W.Frag} {H : Hp} {t u : Addr} {fs gs : Fs} (h : FilesAt H t fs) (g : FilesAt H u gs) : DTp K (DTi K (DVl K)) (.ref t) (.ref u) H (decide (fs = gs)) := by
  obtain ⟨ts, h1, h2⟩ := h
  obtain ⟨us, g1, g2⟩ := g
  refine ⟨t, u, _, _, fun i => decide (fs[i]? = gs[i]?), rfl, rfl, SqT.of h1, SqT.of g1, fun i x y hx hy => ?_, ?_⟩
  · rw [List.getElem?_map] at hx hy
    obtain ⟨a, ea, rfl⟩ := Option.map_eq_some_iff.mp hx
    obtain ⟨b, eb, rfl⟩ := Option.map_eq_some_iff.mp hy
    obtain ⟨f, e1, f1⟩ := prd_get h2 ea
    obtain ⟨g', e2, f2⟩ := prd_get g2 eb
    show DTi K (DVl K) _ _ H (decide (fs[i]? = gs[i]?))
    rw [e1, e2, show decide (some f = some g') = decide (f = g') by by_cases z : f = g' <;> simp [z]]
    exact dPf f1 f2
  · rw [List.length_map, List.length_map, prd_len h2, prd_len g2, all_eq]
section
variable {P : Program} {w : World} {K : PySem.W.Frag} {mg : Str → Option Value} {base : Heap} {ad : Ad}
theorem ownTr (T : Txt P K mg ad) : OwnE K ad.c_Tree ad.a_Tree_XeqX := ⟨T.me_Tree_XeqX.at_, T.ne_Tree, T.cl_Tree.hm⟩
theorem dTr (T : Txt P K mg ad) {H : Hp} {a c : Addr} {fs gs : Fs} (x : TrAt ad H a fs) (y : TrAt ad H c gs) : DOw K ad.a_Tree_XeqX (RTr ad) (.ref a) (.ref c) H (sameF fs gs) := by
  obtain ⟨dx, _, _, _, ha, _⟩ := id x
  obtain ⟨dy, _, _, _, hc, _⟩ := id y
  exact ⟨a, _, dx, _, rfl, ha, .inl ⟨_, .ins hc, ownTr T, T.nf_Tree_Tree, a, c, fs, gs, rfl, rfl, x, y, rfl⟩⟩
end
theorem mkPat0 {K : PySem.W.Frag} {ad : Ad} {H : Hp} {x dx : Addr} {n : Str} {as : List Addr} {cs : List Ch} {R : Hp → Prop} {E : XK} (hx : H x = none) (hdx : H dx = none) (hne : dx ≠ x) (hcs : ChsAt K ad H as cs) (hn : NameOk n) (hl : cs.length < 60) (hpl : ∀ c ∈ cs, c.path.length ≤ 100) (nd : (cs.map Ch.path).Nodup)
    (q : ∀ H' cs', Same H H' → cs'.Perm cs → PyProof.Rows.sortedS (cs'.map Ch.path) = true → PtAt K ad H' x ⟨n, cs'⟩ → R H') :
    spStar 2 (spPat K ad) (.ref x :: .str n :: as.map V.ref) (upd (upd H dx (.own x)) x (.ins ad.c_Patch dx [])) (fun v H2 => v = .non ∧ R H2) E :=
  mkPat hx hdx hne hcs hn hl hpl (fun p dp => by rw [(dupP_none List.nodup_nil).mpr (by rw [List.nil_append]; exact nd)] at dp; cases dp) fun _ H' cs' s pm srt hp => q H' cs' s pm srt hp
theorem nmPatch : NameOk "patch" := ⟨by decide +kernel, by decide +kernel⟩
theorem nmNone : NameOk "none" := ⟨by decide +kernel, by decide +kernel⟩
theorem nmLong : NameOk "long" := ⟨by decide +kernel, by decide +kernel⟩
theorem okLong : PathOk "long" := ⟨by decide +kernel, by decide +kernel, by decide +kernel, by decide +kernel⟩
theorem long_na : ("long" : Str) ≠ "new/a" := by decide +kernel
theorem long_nb : ("long" : Str) ≠ "new/b" := by decide +kernel
theorem TrAt.sameL {ad : Ad} {H H' : Hp} {a x : Addr} {fs : Fs} {ys : List V} (h : TrAt ad H a fs) (hx : H x = some (.lst ys)) (s : SameB x H H') : TrAt ad H' a fs := by
  obtain ⟨dx, d, q, ps, h1, ⟨kvs, h2, h3⟩, h4, h5⟩ := h
  have k : ∀ {b o}, H b = some o → (∀ l, o ≠ .lst l) → H' b = some o := fun {b o} hb n => s.get (fun z => by subst z; rw [hx] at hb; exact n _ (Option.some.inj hb).symm) hb
  exact ⟨dx, d, q, ps, k h1 (fun _ z => nomatch z), ⟨kvs, k h2 (fun _ z => nomatch z), h3.mono fun v ls ⟨p, e, hp⟩ => ⟨p, e, k hp (fun _ z => nomatch z)⟩⟩, k h4 (fun _ z => nomatch z), h5⟩
theorem DcL.src {H H' : Hp} {d s : Addr} {fs : Fs} {k : Nat} {ys : List V} (h : DcL H d fs) (hs : H s = some (.lst ys)) (hy : SrcL k ys) (b : SameB s H H') : DcL H' d fs := by
  obtain ⟨kvs, h1, h2⟩ := h
  exact ⟨kvs, b.get (fun z => by subst z; rw [h1] at hs; cases hs) h1, flL_src hs hy h2 b⟩
theorem goes_ok : ∀ {cs : List Ch} {fs : Fs}, Goes fs cs → FsOk fs → FsOk (appP fs cs)
  | [], _, _, h => h
  | c :: t, fs, ⟨⟨_, _, _, h4, h5, h6⟩, g⟩, _ => @goes_ok t (appC fs c) g (fsOk_app h4 h6 h5)
theorem FilesAt.same {H H' : Hp} {t : Addr} {fs : Fs} (h : FilesAt H t fs) (e : Same H H') : FilesAt H' t fs := by
  obtain ⟨ts, h1, h2⟩ := h
  exact ⟨ts, e _ _ h1, prd_mono (fun _ _ g => PfAt.same g e) h2⟩
theorem fi_by : ("files" : Str) ≠ "by_path" := by decide +kernel
theorem fi_so : ("files" : Str) ≠ "sorted_paths" := by decide +kernel
theorem fl_by : ("file" : Str) ≠ "by_path" := by decide +kernel
theorem fl_so : ("file" : Str) ≠ "sorted_paths" := by decide +kernel
theorem files_eq {fs gs hs : Fs} (nd : (fs.map Prod.fst).Nodup) (p1 : gs.Perm fs) (p2 : hs.Perm fs) (s1 : PyProof.Rows.sortedS (gs.map Prod.fst) = true) (s2 : PyProof.Rows.sortedS (hs.map Prod.fst) = true) : gs = hs := by
  refine sortedBy_uniq (f := Prod.fst) (fun a ha b hb e => ?_) (p1.trans p2.symm) s1 s2
  have e1 := getF_of_mem (p := a.1) (x := a.2) nd (p2.mem_iff.mp ha)
  have e2 := getF_of_mem (p := b.1) (x := b.2) nd (p2.mem_iff.mp hb)
  rw [e, e2] at e1
  exact Prod.ext e (Option.some.inj e1).symm
end Toy

namespace Toy
open PySem L2
local macro_rules | `(tactic| tm_at "w") => `(tactic| (conv => whnf))
local macro_rules | `(tactic| tm_at "fr") => `(tactic| first | assumption | exact upd_none (by assumption) | exact upd_none (upd_none (by assumption)) | exact upd_none (upd_none (upd_none (by assumption))) | exact upd_none (upd_none (upd_none (upd_none (by assumption)))))
local macro_rules | `(tactic| tm_at "ne") => `(tactic| first | assumption | (apply Ne.symm; assumption) | exact upd_none_ne (by assumption) | exact (upd_none_ne (by assumption)).symm | exact upd_none_ne (upd_none (by assumption)) | exact (upd_none_ne (upd_none (by assumption))).symm | exact upd_none_ne (upd_none (upd_none (by assumption))) | exact (upd_none_ne (upd_none (upd_none (by assumption)))).symm)
local macro_rules | `(tactic| tm_at "heap") => `(tactic| first | assumption | exact upd_same | (refine upd_new ?_ (by tm_at "fr"); tm_at "heap") | (refine upd_oth (by tm_at "ne") ?_; tm_at "heap") | (refine SameB.get (by assumption) (by tm_at "ne") ?_; tm_at "heap") | (refine Same.get (by assumption) ?_; tm_at "heap"))
local macro_rules | `(tactic| tm_at "sq") => `(tactic| first | assumption | exact SqL.of (by tm_at "heap") | exact SqT.of (by tm_at "heap"))
local macro_rules | `(tactic| tm_at "ix") => `(tactic| (conv => whnf); first | refine ⟨_, _, .inl (by tm_at "sq"), rfl, ?_⟩ | refine ⟨_, _, .inr (by tm_at "sq"), rfl, ?_⟩)
local macro_rules | `(tactic| tm_at "sb") => `(tactic| first | assumption | exact SameB.refl | (refine SameB.ws ?_; tm_at "sb") | (refine SameB.wr ?_ (by tm_at "fr"); tm_at "sb") | (refine SameB.trans ?_ (by assumption); tm_at "sb"))
/-! reversed changes -/
def Hk.gr (h : Hk) : Int := (h.af.length : Int) - h.be.length
def revHs : Int → List Hk → List Hk
  | _, [] => []
  | g, h :: t => ⟨h.pl + g, h.af, h.be⟩ :: revHs (g + h.gr) t
def revC : Ch → Ch
  | .base p => .base p
  | .edit p hs => .edit p (revHs 0 hs)
  | .create p ls => .remove p ls
  | .remove p ls => .create p ls
theorem revC_path (c : Ch) : (revC c).path = c.path := by cases c <;> rfl
theorem revHs_len : ∀ {hs : List Hk} {g : Int}, (revHs g hs).length = hs.length
  | [], _ => rfl
  | h :: t, g => by show (revHs _ t).length + 1 = t.length + 1; rw [revHs_len]
theorem revHs_rev : ∀ {hs : List Hk} {g : Int}, revHs (-g) (revHs g hs) = hs
  | [], _ => rfl
  | h :: t, g => by
    show (⟨h.pl + g + -g, h.be, h.af⟩ : Hk) :: revHs (-g + (Hk.gr ⟨h.pl + g, h.af, h.be⟩)) (revHs (g + h.gr) t) = h :: t
    rw [show -g + Hk.gr ⟨h.pl + g, h.af, h.be⟩ = -(g + h.gr) by unfold Hk.gr; show -g + ((h.be.length : Int) - h.af.length) = -(g + ((h.af.length : Int) - h.be.length)); omega, revHs_rev, show h.pl + g + -g = h.pl by omega]
theorem revC_rev (c : Ch) : revC (revC c) = c := by
  cases c with
  | edit p hs =>
    show Ch.edit p (revHs 0 (revHs 0 hs)) = _
    have := revHs_rev (hs := hs) (g := 0)
    rw [show (-0 : Int) = 0 by decide] at this
    rw [this]
  | _ => rfl
/-- the growth ahead of the i-th hunk -/
def grs (hs : List Hk) (i : Nat) : Int := ((hs.take i).map Hk.gr).sum
theorem grs_succ {hs : List Hk} {i : Nat} {h : Hk} (e : hs[i]? = some h) : grs hs (i + 1) = grs hs i + h.gr := by
  unfold grs
  rw [take_snoc e, List.map_append, List.sum_append]
  simp
theorem revHs_at : ∀ {hs : List Hk} {g : Int} {i : Nat} {h : Hk}, hs[i]? = some h → (revHs g hs)[i]? = some ⟨h.pl + (g + grs hs i), h.af, h.be⟩
  | a :: t, g, 0, h, e => by
    simp at e
    subst e
    show some (⟨a.pl + g, _, _⟩ : Hk) = _
    rw [show a.pl + (g + grs (a :: t) 0) = a.pl + g by unfold grs; simp]
  | a :: t, g, i + 1, h, e => by
    show (revHs (g + a.gr) t)[i]? = _
    rw [revHs_at (by simpa using e)]
    rw [show grs (a :: t) (i + 1) = a.gr + grs t i by unfold grs; simp, Int.add_assoc]
/-- the reversed hunks fit behind the hunks, and give the lines back -/
theorem rev_back {ls : List Str} : ∀ {hs : List Hk} {e : Nat} {g : Int} {P out : List Str}, Asc e hs → (∀ h ∈ hs, fitsAt ls h) → e ≤ ls.length → (P.length : Int) = e + g → out = P ++ edF ls e hs →
    (∀ h ∈ revHs g hs, fitsAt out h) ∧ Asc P.length (revHs g hs) ∧ edF out P.length (revHs g hs) = ls.drop e
  | [], e, g, P, out, _, _, _, _, ho => by
    refine ⟨fun _ h => (nomatch h), trivial, ?_⟩
    show out.drop P.length = _
    rw [ho, List.drop_append_of_le_length (Nat.le_refl _), List.drop_of_length_le (Nat.le_refl _), List.nil_append]; rfl
  | h :: t, e, g, P, out, ⟨a1, a2⟩, hf, he, hP, ho => by
    obtain ⟨f1, f2, f3⟩ := hf h List.mem_cons_self
    obtain ⟨n, hn⟩ := Int.eq_ofNat_of_zero_le f1
    have hnt : h.pl.toNat = n := by omega
    have hh : h.hi = n + h.be.length := by unfold Hk.hi; rw [hnt]
    have hhl : h.hi ≤ ls.length := by omega
    have hen : e ≤ n := by omega
    have ho2 : out = (P ++ (ls.take n).drop e ++ h.af) ++ edF ls h.hi t := by
      rw [ho]
      show P ++ ((ls.take h.pl.toNat).drop e ++ h.af ++ edF ls h.hi t) = _
      rw [hnt]
      simp only [List.append_assoc]
    have hMl : ((ls.take n).drop e).length = n - e := by rw [List.length_drop, List.length_take]; omega
    have hPl : ((P ++ (ls.take n).drop e ++ h.af).length : Int) = ((h.hi : Nat) : Int) + (g + h.gr) := by
      rw [List.length_append, List.length_append, hMl, hh]
      unfold Hk.gr
      omega
    obtain ⟨r1, r2, r3⟩ := rev_back (g := g + h.gr) (P := P ++ (ls.take n).drop e ++ h.af) a2 (fun k hk => hf k (List.mem_cons_of_mem _ hk)) hhl hPl ho2
    have hpn : h.pl + g = ((P.length + (n - e) : Nat) : Int) := by omega
    have hdrop : out.drop (P.length + (n - e)) = h.af ++ edF ls h.hi t := by
      rw [ho2, List.append_assoc, List.drop_append_of_le_length (by rw [List.length_append, hMl]; omega), List.drop_of_length_le (by rw [List.length_append, hMl]; omega), List.nil_append]
    have hfit : fitsAt out ⟨h.pl + g, h.af, h.be⟩ := by
      refine ⟨by show 0 ≤ h.pl + g; omega, ?_, ?_⟩
      · show h.pl + g + (h.af.length : Int) ≤ (out.length : Int)
        rw [ho2, List.length_append, List.length_append, List.length_append, hMl]; omega
      · show (out.drop (h.pl + g).toNat).take h.af.length = h.af
        rw [hpn, Int.toNat_natCast, hdrop, List.take_append_of_le_length (Nat.le_refl _), List.take_length]
    have hhi : Hk.hi ⟨h.pl + g, h.af, h.be⟩ = (P ++ (ls.take n).drop e ++ h.af).length := by
      unfold Hk.hi
      show (h.pl + g).toNat + h.af.length = _
      rw [hpn, Int.toNat_natCast, List.length_append, List.length_append, hMl]
    refine ⟨?_, ⟨?_, ?_⟩, ?_⟩
    · intro k hk
      rcases List.mem_cons.mp hk with z | z
      · rw [z]; exact hfit
      · exact r1 k z
    · show (P.length : Int) ≤ h.pl + g; omega
    · rw [hhi]; exact r2
    · show (out.take (h.pl + g).toNat).drop P.length ++ h.be ++ edF out (Hk.hi ⟨h.pl + g, h.af, h.be⟩) (revHs (g + h.gr) t) = _
      rw [hhi, r3, hpn, Int.toNat_natCast]
      have e1 : out.take (P.length + (n - e)) = P ++ (ls.take n).drop e := by
        rw [ho2, List.append_assoc, List.take_append_of_le_length (by rw [List.length_append, hMl]; exact Nat.le_refl _), List.take_of_length_le (by rw [List.length_append, hMl]; exact Nat.le_refl _)]
      rw [e1, List.drop_append_of_le_length (Nat.le_refl _), List.drop_of_length_le (Nat.le_refl _), List.nil_append]
      have e2 : ls.drop n = h.be ++ ls.drop h.hi := by
        rw [hnt] at f3
        conv => lhs; rw [← List.take_append_drop h.be.length (ls.drop n), f3, List.drop_drop]
        rw [hh]
      have e3 : ls.drop e = (ls.take n).drop e ++ ls.drop n := by
        conv => lhs; rw [← List.take_append_drop n ls]
        rw [List.drop_append_of_le_length (by rw [List.length_take]; omega)]
      rw [e3, e2, List.append_assoc]
theorem nodup_inj {α β : Type} {f : α → β} : ∀ {l : List α} {a b : α}, (l.map f).Nodup → a ∈ l → b ∈ l → f a = f b → a = b
  | x :: t, a, b, nd, ha, hb, e => by
    rw [List.map_cons, List.nodup_cons] at nd
    rcases List.mem_cons.mp ha with z | z <;> rcases List.mem_cons.mp hb with y | y
    · rw [z, y]
    · exact absurd (by rw [← z, e]; exact List.mem_map_of_mem y) nd.1
    · exact absurd (by rw [← y, ← e]; exact List.mem_map_of_mem z) nd.1
    · exact nodup_inj nd.2 z y e
/-- what is wanted of a change that is reversed -/
def RvOk : Ch → Prop
  | .base _ => False
  | .edit _ hs => hs ≠ [] ∧ hs.length ≤ 1000 ∧ Asc 0 (revHs 0 hs) ∧ ∀ h ∈ revHs 0 hs, h.bad = false ∧ 0 ≤ h.pl ∧ h.pl.natAbs < 10 ^ 18
  | _ => True
def spRvC (K : PySem.W.Frag) (ad : Ad) : Sp := fun vs H Q _ => ∃ (a : Addr) (c : Ch), vs = [.ref a] ∧ ChAt K ad H a c ∧ RvOk c ∧ PathOk c.path ∧ ∀ x H', Same H H' → ChAt K ad H' x (revC c) → Q (.ref x) H'
def spRvP (K : PySem.W.Frag) (ad : Ad) : Sp := fun vs H Q _ => ∃ (a : Addr) (p : Pt), vs = [.ref a] ∧ PtAt K ad H a p ∧ NameOk p.name ∧ (∀ c ∈ p.chs, RvOk c ∧ PathOk c.path) ∧ (p.chs.map Ch.path).Nodup ∧ PyProof.Rows.sortedS (p.chs.map Ch.path) = true ∧ p.chs.length < 50 ∧ ∀ x H', Same H H' → PtAt K ad H' x ⟨p.name, p.chs.map revC⟩ → Q (.ref x) H'
section
variable {P : Program} {w : World} {K : PySem.W.Frag} {mg : Str → Option Value} {base : Heap} {ad : Ad}
theorem ok_reversed_change (T : Txt P K mg ad) : FnOk P w K mg base CX0 8 ad.a_reversed_change ad.d_reversed_change ["change"] (spRvC K ad) := by
  refine T.f_reversed_change.ok sc_reversed_change (fun vs H Q E h => ?_) (fun cdv A outer s H vs Q E hr h => ?_)
  · obtain ⟨a, c, rfl, _⟩ := h; rfl
  · obtain ⟨a, c, rfl, hc, hv, hp, k⟩ := h
    refine ⟨_, pss_cons (cs_if (ct_val (pe_callB (cc_isi (K := K)) (by rfl) T.n_isinstance (by decide +kernel) (pa_cons (cv 0) (pa_cons (pe_glob (v := .ref ad.c_Create) rfl T.mg_Create rfl) pa_nil))))
        (pss_one (ps_ret (pe_make T.mk_Remove (ok_Remove_XinitX T) (hr.mono (by decide)) rfl T.mg_Remove T.b_Remove_XinitX .nil pass0 (pa_cons (ce_fld (K := K) (cv 0) rfl) (pa_cons (ce_fld (K := K) (cv 0) rfl) pa_nil)))))
        pss_nil)
      (pss_cons (cs_if (ct_val (pe_callB (cc_isi (K := K)) (by rfl) T.n_isinstance (by decide +kernel) (pa_cons (cv 0) (pa_cons (pe_glob (v := .ref ad.c_Remove) rfl T.mg_Remove rfl) pa_nil))))
        (pss_one (ps_ret (pe_make T.mk_Create (ok_Create_XinitX T) (hr.mono (by decide)) rfl T.mg_Create T.b_Create_XinitX .nil pass0 (pa_cons (ce_fld (K := K) (cv 0) rfl) (pa_cons (ce_fld (K := K) (cv 0) rfl) pa_nil)))))
        pss_nil)
      (pss_cons (ps_set (i := 1) sc_reversed_change.nd rfl (by first | exact Or.inl rfl | exact Or.inr rfl) (pe_lst pa_nil))
      (pss_cons (ps_set (i := 2) sc_reversed_change.nd rfl (by first | exact Or.inl rfl | exact Or.inr rfl) pe_int)
      (pss_cons (ps_for PassesOwn.never rfl (pic_seq (K := K) (ce_fld (K := K) (cv 0) rfl)) (pg_name (i := 3) sc_reversed_change.nd rfl (by first | exact Or.inl rfl | exact Or.inr rfl))
        (pss_cons (ps_expr (pe_bm PySem.F.plainAttrs_list PySem.F.slot_list_append PySem.F.type_list_append (mc_append) (cv 1) (pa_cons (pe_make T.mk_Hunk (ok_Hunk_XinitX T) (hr.mono (by decide)) rfl T.mg_Hunk T.b_Hunk_XinitX .nil passL (pa_cons (pe_op (oc_add (K := K)) (ce_fld (K := K) (cv 3) rfl) (cv 2)) (pa_cons (ce_fld (K := K) (cv 3) rfl) (pa_cons (ce_fld (K := K) (cv 3) rfl) pa_nil)))) pa_nil)))
        (pss_one (ps_aug (i := 2) sc_reversed_change.nd rfl (by first | exact Or.inl rfl | exact Or.inr rfl) (pe_prop (cv 3) T.cl_Hunk.cl T.pr_Hunk_growth (ok_Hunk_growth T) (hr.mono (by decide)) T.b_Hunk_growth .nil pass0 rfl) ip_add))))
      (pss_one (ps_ret (pe_make T.mk_Edit (ok_Edit_XinitX T) (hr.mono (by decide)) rfl T.mg_Edit T.b_Edit_XinitX .nil passL (pa_cons (ce_fld (K := K) (cv 0) rfl) (pa_cons (pe_callTy (cc_tuple (K := K)) (by rfl) T.n_tuple (by decide +kernel) (pa_cons (cv 1) pa_nil)) pa_nil))))))))), ?_⟩
    obtain ⟨dc, fc, ec, lc, _⟩ := hc.ins
    tm_at "w"
    cases c with
    | base p => exact hv.elim
    | create p ls =>
      obtain ⟨dc', q', ec', hq'⟩ := hc
      refine ⟨_, true, T.cl_Create.ins ec, T.cl_Create.kit T.sc_Create (fun _ => rfl), ?_⟩
      refine .t ?_
      refine ⟨_, dc', _, _, ec', T.cl_Create.cl, T.na_Create_path, by rw [List.lookup_cons, beq_self_eq_true], ?_⟩
      refine ⟨_, dc', _, _, ec', T.cl_Create.cl, T.na_Create_lines, lk_li, ?_⟩
      intro x dx hx hdx _
      refine ⟨x, dx, q', p, rfl, upd_same, hp, fun H6 s6 h6 => ⟨rfl, ?_⟩⟩
      have s7 := mk_same hx hdx s6
      exact k x H6 s7 ⟨dx, q', h6, s7 _ _ hq'⟩
    | remove p ls =>
      obtain ⟨dc', q', ec', hq'⟩ := hc
      refine ⟨_, false, T.cl_Remove.ins ec, T.cl_Create.kit T.sc_Remove (fun h => absurd (Value.ref.inj h).symm T.nqCR), ?_⟩
      refine .f ?_
      refine ⟨_, true, T.cl_Remove.ins ec, T.cl_Remove.kit T.sr_Remove (fun _ => rfl), ?_⟩
      refine .t ?_
      refine ⟨_, dc', _, _, ec', T.cl_Remove.cl, T.na_Remove_path, by rw [List.lookup_cons, beq_self_eq_true], ?_⟩
      refine ⟨_, dc', _, _, ec', T.cl_Remove.cl, T.na_Remove_lines, lk_li, ?_⟩
      intro x dx hx hdx _
      refine ⟨x, dx, q', p, rfl, upd_same, hp, fun H6 s6 h6 => ⟨rfl, ?_⟩⟩
      have s7 := mk_same hx hdx s6
      exact k x H6 s7 ⟨dx, q', h6, s7 _ _ hq'⟩
    | edit p hs =>
      obtain ⟨dc', q', as, ec', hq', hks⟩ := hc
      obtain ⟨v1, v2, v3, v4⟩ := hv
      refine ⟨_, false, T.cl_Edit.ins ec, T.cl_Create.kit T.sc_Edit (fun h => absurd (Value.ref.inj h).symm T.nqe_Create), ?_⟩
      refine .f ?_
      refine ⟨_, false, T.cl_Edit.ins ec, T.cl_Remove.kit T.sr_Edit (fun h => absurd (Value.ref.inj h).symm T.nqe_Remove), ?_⟩
      refine .f ?_
      refine ⟨Nat.zero_le _, fun f hfn => ?_⟩
      have hlen : as.length = hs.length := prd_len hks
      have sf : Same H (upd H f (.lst [])) := Same.new hfn
      refine .inr ⟨_, dc', _, _, sf _ _ ec', T.cl_Edit.cl, T.na_Edit_hunks, lk_hu, q', rfl, ⟨_, SqT.of (sf _ _ hq')⟩, ?_⟩
      refine for_tup (K := K) (a := q') (xs := as.map V.ref) (fun i σ H' => ∃ (u : Option V) (bs : List Addr), σ = [some (.ref a), some (.ref f), some (.int (grs hs i)), u] ∧ Same H H' ∧ H' f = some (.lst (bs.map V.ref)) ∧ HksAt K ad H' bs ((revHs 0 hs).take i))
        ⟨_, [], rfl, sf, upd_same, .nil⟩ (fun i σ H' _ ⟨u, bs, _, s1, _⟩ => SqT.of (s1 _ _ hq')) ?_ ?_
      · rintro i x σ H1 hx ⟨u, bs, rfl, s1, hf1, hb1⟩
        rw [List.getElem?_map] at hx
        obtain ⟨b, eb, rfl⟩ := Option.map_eq_some_iff.mp hx
        obtain ⟨h, eh, hk⟩ := prd_get (hks.same s1) eb
        have er := revHs_at (g := 0) eh
        obtain ⟨w1, w2, w3⟩ := v4 _ (List.mem_of_getElem? er)
        rw [show h.pl + (0 + grs hs i) = h.pl + grs hs i by omega] at er w1 w2 w3
        obtain ⟨dy, b1, c1, y1, y2, y3⟩ := hk
        refine ⟨.inl ⟨rfl, _, SqL.of hf1⟩, ?_⟩
        refine ⟨_, dy, _, _, y1, T.cl_Hunk.cl, T.na_Hunk_at, lk_at, ?_⟩
        refine ⟨_, dy, _, _, y1, T.cl_Hunk.cl, T.na_Hunk_after, lk_af, ?_⟩
        refine ⟨_, dy, _, _, y1, T.cl_Hunk.cl, T.na_Hunk_before, lk_be, ?_⟩
        intro x dx hx hdx _
        have s0 := mkn_same (o1 := .own x) (o2 := .ins ad.c_Hunk dx []) hx hdx
        refine ⟨x, dx, c1, b1, ⟨h.pl + grs hs i, h.af, h.be⟩, rfl, upd_same, s0 _ _ y3, s0 _ _ y2, w3, fun e => (by rw [w1] at e; cases e), fun _ H7 s7 h7 => ⟨rfl, ?_⟩⟩
        have s8 := mk_same hx hdx s7
        have hbl := prd_len hb1
        rw [List.length_take, revHs_len] at hbl
        refine ⟨_, s8 _ _ hf1, by rw [List.length_map, sizeLine_eq]; omega, ?_⟩
        have sB : SameB f H7 (upd H7 f (.lst (bs.map V.ref ++ [.ref x]))) := SameB.at
        have hfl : H7 f = some (.lst (bs.map V.ref)) := s8 _ _ hf1
        have keepH : ∀ {a h}, HkAt K ad H7 a h → HkAt K ad (upd H7 f (.lst (bs.map V.ref ++ [.ref x]))) a h := fun {a h} ⟨dz, b2, c2, g1, g2, g3⟩ => ⟨dz, b2, c2, sB.get (fun z => by subst z; rw [hfl] at g1; cases g1) g1, sB.get (fun z => by subst z; rw [hfl] at g2; cases g2) g2, sB.get (fun z => by subst z; rw [hfl] at g3; cases g3) g3⟩
        have hkb := keepH (HkAt.same (show HkAt K ad H1 b h from ⟨dy, b1, c1, y1, y2, y3⟩) s8)
        obtain ⟨dz, b2, c2, z1, z2, z3⟩ := id hkb
        refine ⟨_, rfl, b, dz, _, rfl, z1, b, _, rfl, hkb, ?_⟩
        refine ⟨_, _, rfl, rfl, ?_⟩
        refine ⟨some (.ref b), bs ++ [x], ?_, (s1.trans s8).wr hfn, by rw [upd_same, List.map_append]; rfl, ?_⟩
        · rw [grs_succ eh]; rfl
        · rw [take_snoc er]
          exact prd_app (prd_mono (fun _ _ g => keepH (HkAt.same g s8)) hb1) (.cons (keepH ⟨dx, c1, b1, h7, s8 _ _ y3, s8 _ _ y2⟩) .nil)
      · rintro σ H1 ⟨u, bs, rfl, s1, hf1, hb1⟩
        rw [List.length_map, hlen, List.take_of_length_le (by rw [revHs_len]; exact Nat.le_refl _)] at hb1
        have ec1 := s1 _ _ ec'
        refine ⟨_, dc', _, _, ec1, T.cl_Edit.cl, T.na_Edit_path, by rw [List.lookup_cons, beq_self_eq_true], ?_⟩
        refine ⟨_, .inl ⟨SqL.of hf1, fun tp htp => ?_⟩⟩
        have s5 := s1.trans (Same.new (o := .tup (bs.map V.ref)) htp)
        intro x dx hx hdx _
        have s0 := mkn_same (o1 := .own x) (o2 := .ins ad.c_Edit dx []) hx hdx
        have fb := asc_firstBad v3 (fun z => v1 (List.length_eq_zero_iff.mp (by rw [← revHs_len (hs := hs) (g := 0), z]; rfl))) fun g hg => (v4 g hg).2.1
        have hks5 : HksAt K ad (upd H1 tp (.tup (bs.map V.ref))) bs (revHs 0 hs) := HksAt.same hb1 (Same.new htp)
        refine ⟨x, dx, tp, p, bs, revHs 0 hs, rfl, upd_same, hp, s0 _ _ upd_same, hks5.same s0, by rw [revHs_len]; exact v2, fun i z => absurd (z.uniq fb) (fun z => nomatch z), fun _ H6 s6 h6 => ⟨rfl, ?_⟩⟩
        have s7 := mk_same hx hdx s6
        exact k x H6 (s5.trans s7) ⟨dx, tp, bs, h6, s7 _ _ upd_same, hks5.same s7⟩
theorem ok_reversed_patch (T : Txt P K mg ad) : FnOk P w K mg base CX0 11 ad.a_reversed_patch ad.d_reversed_patch ["patch"] (spRvP K ad) := by
  refine T.f_reversed_patch.ok sc_reversed_patch (fun vs H Q E h => ?_) (fun cdv A outer s H vs Q E hr h => ?_)
  · obtain ⟨a, p, rfl, _⟩ := h; rfl
  · obtain ⟨a, ⟨n, cs⟩, rfl, ⟨dx, dd, q, as, e1, e2, e3⟩, hn, hv, nd, srt, hl, k⟩ := h
    refine ⟨_, pss_cons (ps_setLc (i := 1) (own := [("change", 2)]) (g := gName 2) (by rfl) sc_reversed_patch.nd rfl rfl (sw_true rfl rfl rfl (by decide +kernel)) (pic_seq (K := K) (ce_fld (K := K) (cv 0) rfl)) (blkOk_by (own := [("change", 2)]) (N := N_reversed_patch) (sc := defScope s_reversed_patch) (by decide +kernel)) (fun _ _ _ _ _ => pg_name (i := 2) sc_reversed_patch.nd rfl (by first | exact Or.inl rfl | exact Or.inr rfl)) (fun _ _ _ _ _ => pts_nil) (fun _ _ _ _ _ => pe_call (ok_reversed_change T) (hr.mono (by decide)) rfl T.m_reversed_change T.k_reversed_change T.b_reversed_change .nil pass0 (pa_cons (cv 2) pa_nil)))
      (pss_one (ps_ret (pe_mkRs T.mk_Patch (ok_Patch_XinitX T) (hr.mono (by decide)) rfl T.mg_Patch (E := fun _ => E0) (fun σ => passLS σ) (pa_cons (ce_fld (K := K) (cv 0) rfl) (StX.pa_star (cv 1) pa_nil))))), ?_⟩
    have hlen : as.length = cs.length := prd_len e3
    have hl : cs.length < 50 := hl
    refine .inr ⟨_, dx, _, _, e1, T.cl_Patch.cl, T.na_Patch_changes, lkp3, q, rfl, ⟨_, SqT.of e2⟩, fun D hD => ?_⟩
    refine lc_fl (walk_tup (xs := as.map V.ref)) (fun _ => true) (fun y c H' => ∃ b, y = .ref b ∧ ChAt K ad H' b (revC c)) (xs := cs) (by rw [List.length_map, hlen]) (fun y c H3 H4 acc hD3 s3 ⟨b, z1, z2⟩ => ⟨b, z1, ChAt.sameO hD3 (fun _ _ _ _ z => nomatch z) (fun _ z => nomatch z) s3 z2⟩) hD (by rw [List.length_map, hlen]; omega) (fun H3 s3 => SqT.of (s3 _ _ e2)) ?_ ?_
    · rintro j c x H3 H4 Nx Nz ec s3 ⟨rfl, hx⟩ k1 _
      rw [List.getElem?_map] at hx
      obtain ⟨b, eb, rfl⟩ := Option.map_eq_some_iff.mp hx
      obtain ⟨c', ec', hc'⟩ := prd_get (ChsAt.same e3 s3) eb
      rw [ec] at ec'
      cases ec'
      have hc := hv c (List.mem_of_getElem? ec)
      refine ⟨rfl, ?_⟩
      exact ⟨b, c, rfl, hc', hc.1, hc.2, fun x' H5 s5 h5 => k1 rfl _ _ s5 ⟨x', rfl, h5⟩⟩
    intro H3 yv pr s3 hD3
    obtain ⟨bs, rfl, pr'⟩ := refsP pr
    rw [List.filter_eq_self.mpr (fun _ _ => rfl)] at pr'
    refine ⟨_, dx, _, _, s3 _ _ e1, T.cl_Patch.cl, T.na_Patch_name, lkp1, ?_⟩
    refine ⟨D, _, rfl, .inr (SqL.of hD3), ?_⟩
    intro x dx' hx hdx hne
    have hcs : ChsAt K ad H3 bs (cs.map revC) := prd_map revC (fun _ _ g => g) pr'
    have ep : (cs.map revC).map Ch.path = cs.map Ch.path := by rw [List.map_map]; exact List.map_congr_left fun c _ => revC_path c
    rw [List.append_nil]
    refine mkPat0 hx hdx hne hcs hn (by rw [List.length_map]; omega) (fun c hc => ?_) (by rw [ep]; exact nd) fun H4 c1 s4 pm1 st1 X1 => ?_
    · obtain ⟨c0, hc0, rfl⟩ := List.mem_map.mp hc
      rw [revC_path]; exact (hv c0 hc0).2.2.1
    · have : c1 = cs.map revC := by
        refine sortedBy_uniq (f := Ch.path) (fun a ha b hb e => ?_) pm1 st1 (by rw [ep]; exact srt)
        obtain ⟨a0, ha0, rfl⟩ := List.mem_map.mp ha
        obtain ⟨b0, hb0, rfl⟩ := List.mem_map.mp hb
        rw [revC_path, revC_path] at e
        rw [nodup_inj nd ha0 hb0 e]
      subst this
      exact k x H4 (s3.trans s4) X1
end
end Toy

namespace Toy
open PySem L2
local macro_rules | `(tactic| tm_at "w") => `(tactic| (conv => whnf))
local macro_rules | `(tactic| tm_at "fr") => `(tactic| first | assumption | exact upd_none (by assumption) | exact upd_none (upd_none (by assumption)) | exact upd_none (upd_none (upd_none (by assumption))) | exact upd_none (upd_none (upd_none (upd_none (by assumption)))))
local macro_rules | `(tactic| tm_at "ne") => `(tactic| first | assumption | (apply Ne.symm; assumption) | exact upd_none_ne (by assumption) | exact (upd_none_ne (by assumption)).symm | exact upd_none_ne (upd_none (by assumption)) | exact (upd_none_ne (upd_none (by assumption))).symm | exact upd_none_ne (upd_none (upd_none (by assumption))) | exact (upd_none_ne (upd_none (upd_none (by assumption)))).symm)
local macro_rules | `(tactic| tm_at "heap") => `(tactic| first | assumption | exact upd_same | (refine upd_new ?_ (by tm_at "fr"); tm_at "heap") | (refine upd_oth (by tm_at "ne") ?_; tm_at "heap") | (refine SameB.get (by assumption) (by tm_at "ne") ?_; tm_at "heap") | (refine Same.get (by assumption) ?_; tm_at "heap"))
local macro_rules | `(tactic| tm_at "sq") => `(tactic| first | assumption | exact SqL.of (by tm_at "heap") | exact SqT.of (by tm_at "heap"))
local macro_rules | `(tactic| tm_at "ix") => `(tactic| (conv => whnf); first | refine ⟨_, _, .inl (by tm_at "sq"), rfl, ?_⟩ | refine ⟨_, _, .inr (by tm_at "sq"), rfl, ?_⟩)
local macro_rules | `(tactic| tm_at "sb") => `(tactic| first | assumption | exact SameB.refl | (refine SameB.ws ?_; tm_at "sb") | (refine SameB.wr ?_ (by tm_at "fr"); tm_at "sb") | (refine SameB.trans ?_ (by assumption); tm_at "sb"))
/-! the law -/
def effC : Option (List Str) → Ch → Option (List Str)
  | o, .base _ => o
  | o, .edit _ hs => some (edF (o.getD []) 0 hs)
  | _, .create _ ls => some ls
  | _, .remove _ _ => none
theorem getF_appC {fs : Fs} {c : Ch} : getF (appC fs c) c.path = effC (getF fs c.path) c := by
  cases c with
  | base p => rfl
  | edit p hs => exact (getF_put).trans (if_pos rfl)
  | create p ls => exact (getF_put).trans (if_pos rfl)
  | remove p ls => exact (getF_drop).trans (if_pos rfl)
theorem getF_appP_not {q : Str} : ∀ {cs : List Ch} {fs : Fs}, q ∉ cs.map Ch.path → getF (appP fs cs) q = getF fs q
  | [], _, _ => rfl
  | c :: t, fs, h => by
    rw [List.map_cons] at h
    show getF (appP (appC fs c) t) q = _
    rw [getF_appP_not (fun z => h (List.mem_cons_of_mem _ z)), getF_app_other (fun z => h (z ▸ List.mem_cons_self))]
theorem getF_appP_mem : ∀ {cs : List Ch} {fs : Fs} {c : Ch}, (cs.map Ch.path).Nodup → c ∈ cs → getF (appP fs cs) c.path = effC (getF fs c.path) c
  | d :: t, fs, c, nd, h => by
    rw [List.map_cons, List.nodup_cons] at nd
    show getF (appP (appC fs d) t) c.path = _
    rcases List.mem_cons.mp h with z | z
    · subst z
      rw [getF_appP_not nd.1, getF_appC]
    · rw [getF_appP_mem nd.2 z, getF_app_other fun e => nd.1 (e ▸ List.mem_map_of_mem z)]
theorem revHs_mem : ∀ {hs : List Hk} {g : Int} {h : Hk}, h ∈ revHs g hs → ∃ h0 ∈ hs, h.be = h0.af ∧ h.af = h0.be
  | a :: t, g, h, hh => by
    rcases List.mem_cons.mp hh with z | z
    · rw [z]; exact ⟨a, List.mem_cons_self, rfl, rfl⟩
    · obtain ⟨h0, h1, h2⟩ := revHs_mem z
      exact ⟨h0, List.mem_cons_of_mem _ h1, h2⟩
theorem ChD.mono {fs : Fs} {m n : Nat} {c : Ch} (h : ChD fs m c) (hm : m ≤ n) : ChD fs n c := by
  cases c with
  | base p => exact h
  | edit p hs => obtain ⟨ls, h1, h2, h3, h4⟩ := h; exact ⟨ls, h1, h2, by omega, h4⟩
  | create p ls => exact h
  | remove p ls => exact h
/-- the reversed change, behind the change -/
theorem ChD.back {fs : Fs} {m : Nat} {c : Ch} (h : ChD fs m c) (hm : m ≤ 100) (hl : ∀ ls, getF fs c.path = some ls → ls.length ≤ 10 ^ 4) {gs : Fs} (e : getF gs c.path = effC (getF fs c.path) c) :
    ExC gs (revC c) ∧ Bnd (revC c) ∧ RvOk c ∧ RvOk (revC c) ∧ effC (getF gs c.path) (revC c) = getF fs c.path ∧ ∀ ls, getF gs c.path = some ls → ls.length ≤ 10 ^ 6 := by
  cases c with
  | base p => exact h.elim
  | edit p hs =>
    obtain ⟨ls, h1, h2, h3, h4, h5⟩ := h
    have hll : ls.length ≤ 10 ^ 4 := hl ls h1
    have hf : ∀ k ∈ hs, fitsAt ls k := fun k hk => (h5 k hk).1
    obtain ⟨r1, r2, r3⟩ := rev_back (e := 0) (g := 0) (P := []) (out := edF ls 0 hs) h4 hf (Nat.zero_le _) rfl (by rw [List.nil_append])
    rw [List.drop_zero] at r3
    have e : getF gs p = some (edF ls 0 hs) := by
      have e' : getF gs p = effC (getF fs p) (.edit p hs) := e
      rw [h1] at e'; exact e'
    have hlen := edF_len (e := 0) h4 hf (Nat.zero_le _) fun k hk => Nat.le_trans (h5 k hk).2.2.1 (by decide)
    have hol : (edF ls 0 hs).length ≤ 2 * 10 ^ 5 := by
      have : hs.length * 1000 ≤ 100 * 1000 := Nat.mul_le_mul_right _ (by omega)
      omega
    have hpl : ∀ k ∈ revHs 0 hs, k.bad = false ∧ 0 ≤ k.pl ∧ k.pl.natAbs < 10 ^ 18 := fun k hk => by
      obtain ⟨f1, f2, _⟩ := r1 k hk
      obtain ⟨k0, hk0, b1, b2⟩ := revHs_mem hk
      refine ⟨?_, f1, by omega⟩
      unfold Hk.bad
      rw [decide_eq_false (by omega), decide_eq_false (by rw [b1, b2]; exact fun z => (h5 k0 hk0).2.1 z.symm)]; rfl
    refine ⟨⟨_, e, r1, r2⟩, ⟨by rw [revHs_len]; omega, fun k hk => ?_⟩, ⟨h2, by omega, r2, hpl⟩, ⟨fun z => h2 (List.length_eq_zero_iff.mp (by rw [← revHs_len (hs := hs) (g := 0), z]; rfl)), by rw [revHs_len]; omega, ?_, ?_⟩, ?_, ?_⟩
    · obtain ⟨k0, hk0, b1, b2⟩ := revHs_mem hk
      rw [b2]; have := (h5 k0 hk0).2.2.2; omega
    · have := revHs_rev (hs := hs) (g := 0)
      rw [show (-0 : Int) = 0 by decide] at this
      rw [this]; exact h4
    · intro k hk
      have := revHs_rev (hs := hs) (g := 0)
      rw [show (-0 : Int) = 0 by decide] at this
      rw [this] at hk
      obtain ⟨f1, f2, _⟩ := hf k hk
      exact ⟨chD_bad (h5 k hk), f1, by omega⟩
    · show effC (getF gs p) (.edit p (revHs 0 hs)) = getF fs p
      rw [e, h1]
      show some (edF (edF ls 0 hs) 0 (revHs 0 hs)) = some ls
      rw [show edF (edF ls 0 hs) 0 (revHs 0 hs) = ls from r3]
    · intro l el
      have el : getF gs p = some l := el
      rw [e] at el
      cases el
      omega
  | create p ls =>
    obtain ⟨h1, h2, h3⟩ := h
    have e : getF gs p = some ls := e
    exact ⟨e, trivial, trivial, trivial, h1.symm, fun l el => by
      have el : getF gs p = some l := el
      rw [e] at el; cases el; omega⟩
  | remove p ls =>
    have h : getF fs p = some ls := h
    have e : getF gs p = none := e
    exact ⟨e, trivial, trivial, trivial, h.symm, fun l el => by
      have el : getF gs p = some l := el
      rw [e] at el; cases el⟩
theorem mem_keys {fs gs : Fs} (h : ∀ q, getF gs q = getF fs q) (q : Str) : q ∈ gs.map Prod.fst ↔ q ∈ fs.map Prod.fst := by
  have e1 := getF_isSome (fs := gs) (p := q)
  have e2 := getF_isSome (fs := fs) (p := q)
  rw [h q, e2] at e1
  constructor
  · intro z; exact of_decide_eq_true (by rw [e1]; exact decide_eq_true z)
  · intro z; exact of_decide_eq_true (by rw [← e1]; exact decide_eq_true z)
theorem sameF_of {fs gs : Fs} (n1 : (gs.map Prod.fst).Nodup) (n2 : (fs.map Prod.fst).Nodup) (h : ∀ q, getF gs q = getF fs q) : sameF gs fs = true := by
  have pm : (gs.map Prod.fst).Perm (fs.map Prod.fst) := (List.perm_ext_iff_of_nodup n1 n2).mpr (mem_keys h)
  have hl := pm.length_eq
  rw [List.length_map, List.length_map] at hl
  unfold sameF
  rw [hl, beq_self_eq_true, Bool.true_and, List.all_eq_true]
  rintro ⟨p, ls⟩ hf
  exact decide_eq_true (by rw [← h p]; exact getF_of_mem n1 hf)
theorem rcB_pairsK {X : Cx} {ne : Bool} {K : PySem.W.Frag} (hK : X.K = K := by rfl) : RcB X 2 ne (DTp K (DTi K DFl)) := by
  subst hK
  exact rcB_tup (monTi monB_flat) (eqB_ti monB_flat eqB_flat)
/-- two pairs of tuples of texts -/
theorem dPair2 {K : PySem.W.Frag} {H : Hp} {t u p q p' q' : Addr} {a b c d : List Str} (ht : H t = some (.tup [.ref p, .ref q])) (hu : H u = some (.tup [.ref p', .ref q'])) (h1 : H p = some (.tup (a.map V.str))) (h2 : H q = some (.tup (b.map V.str))) (h3 : H p' = some (.tup (c.map V.str))) (h4 : H q' = some (.tup (d.map V.str))) :
    DTp K (DTi K DFl) (.ref t) (.ref u) H (decide (a = c ∧ b = d)) := by
  refine ⟨t, u, _, _, fun i => if i = 0 then decide (a = c) else decide (b = d), rfl, rfl, SqT.of ht, SqT.of hu, fun i x y hx hy => ?_, ?_⟩
  · match i, hx, hy with
    | 0, hx, hy => cases hx; cases hy; exact dTi_strs h1 h3
    | 1, hx, hy => cases hx; cases hy; exact dTi_strs h2 h4
  · show decide (a = c ∧ b = d) = ((List.range 2).all (fun i => if i = 0 then decide (a = c) else decide (b = d)) && (2 : Nat) == 2)
    rw [show List.range 2 = [0, 1] from rfl]
    by_cases z : a = c <;> by_cases w : b = d <;> simp [z, w]
section
variable {P : Program} {w : World} {K : PySem.W.Frag} {mg : Str → Option Value} {base : Heap} {ad : Ad}
theorem ownPt8 (T : Txt P K mg ad) : OwnE K ad.c_Patch ad.a_Patch_XeqX := ⟨T.me_Patch_XeqX.at_, T.ne_Patch, T.cl_Patch.hm⟩
theorem dPt8 (T : Txt P K mg ad) {H : Hp} {a c : Addr} {p q : Pt} (x : PtAt K ad H a p) (y : PtAt K ad H c q) : DOw K ad.a_Patch_XeqX (RPt K ad) (.ref a) (.ref c) H (decide (p = q)) := by
  obtain ⟨dx, _, _, _, ha, _⟩ := id x
  obtain ⟨dy, _, _, _, hc, _⟩ := id y
  exact ⟨a, _, dx, _, rfl, ha, .inl ⟨_, .ins hc, ownPt8 T, T.nf_Patch_Patch, a, p, rfl, x, .inl ⟨c, q, rfl, y, rfl⟩⟩⟩
end
end Toy

namespace Toy
open PySem L2
local macro_rules | `(tactic| tm_at "w") => `(tactic| (conv => whnf))
local macro_rules | `(tactic| tm_at "fr") => `(tactic| first | assumption | exact upd_none (by assumption) | exact upd_none (upd_none (by assumption)) | exact upd_none (upd_none (upd_none (by assumption))) | exact upd_none (upd_none (upd_none (upd_none (by assumption)))))
local macro_rules | `(tactic| tm_at "ne") => `(tactic| first | assumption | (apply Ne.symm; assumption) | exact upd_none_ne (by assumption) | exact (upd_none_ne (by assumption)).symm | exact upd_none_ne (upd_none (by assumption)) | exact (upd_none_ne (upd_none (by assumption))).symm | exact upd_none_ne (upd_none (upd_none (by assumption))) | exact (upd_none_ne (upd_none (upd_none (by assumption)))).symm)
local macro_rules | `(tactic| tm_at "heap") => `(tactic| first | assumption | exact upd_same | (refine upd_new ?_ (by tm_at "fr"); tm_at "heap") | (refine upd_oth (by tm_at "ne") ?_; tm_at "heap") | (refine SameB.get (by assumption) (by tm_at "ne") ?_; tm_at "heap") | (refine Same.get (by assumption) ?_; tm_at "heap"))
local macro_rules | `(tactic| tm_at "sq") => `(tactic| first | assumption | exact SqL.of (by tm_at "heap") | exact SqT.of (by tm_at "heap"))
local macro_rules | `(tactic| tm_at "ix") => `(tactic| (conv => whnf); first | refine ⟨_, _, .inl (by tm_at "sq"), rfl, ?_⟩ | refine ⟨_, _, .inr (by tm_at "sq"), rfl, ?_⟩)
local macro_rules | `(tactic| tm_at "sb") => `(tactic| first | assumption | exact SameB.refl | (refine SameB.ws ?_; tm_at "sb") | (refine SameB.wr ?_ (by tm_at "fr"); tm_at "sb") | (refine SameB.trans ?_ (by assumption); tm_at "sb"))
theorem PtAt.sameL {K : PySem.W.Frag} {ad : Ad} {H H' : Hp} {a x : Addr} {p : Pt} {ys : List V} (h : PtAt K ad H a p) (hx : H x = some (.lst ys)) (s : SameB x H H') : PtAt K ad H' a p := by
  obtain ⟨dx, dd, q, as, h1, h2, h3⟩ := h
  exact ⟨dx, dd, q, as, s.get (fun z => by subst z; rw [hx] at h1; cases h1) h1, s.get (fun z => by subst z; rw [hx] at h2; cases h2) h2, ChsAt.sameO hx (fun _ _ _ _ z => nomatch z) (fun _ z => nomatch z) s h3⟩
theorem prd_eqmap {α β : Type} {f : α → β} : ∀ {ys : List β} {xs : List α}, Paired (fun y x => y = f x) ys xs → ys = xs.map f
  | _, _, .nil => rfl
  | _, _, .cons r t => by rw [List.map_cons, ← prd_eqmap t, r]
theorem len_appP : ∀ {cs : List Ch} {fs : Fs}, (appP fs cs).length ≤ fs.length + cs.length
  | [], _ => Nat.le_refl _
  | c :: t, fs => by
    have h1 := len_app (fs := fs) (c := c)
    have h2 := len_appP (cs := t) (fs := appC fs c)
    show (appP (appC fs c) t).length ≤ fs.length + (t.length + 1)
    omega
section
variable {P : Program} {w : World} {K : PySem.W.Frag} {mg : Str → Option Value} {base : Heap} {ad : Ad}
set_option maxHeartbeats 16000000 in
theorem ok_law (T : Txt P K mg ad) : FnOk P w K mg base CX0 24 ad.a_law ad.d_law ["_law_script"] (spLaw K) := by
  refine T.f_law.ok sc_law (fun vs H Q E h => ?_) (fun cdv A outer s H vs Q E hr h => ?_)
  · obtain ⟨a, ns, rfl, _⟩ := h; rfl
  · obtain ⟨a, ns, rfl, ha, hns, q⟩ := h
    refine ⟨_, pss_cons (ps_for PassesOwn.never rfl (pi_range1 rfl T.n_range (pa_cons (pe_callB (cc_max rfl) (by rfl) T.n_max (by decide +kernel) (pa_cons pe_int (pa_cons (pe_callB (cc_min rfl) (by rfl) T.n_min (by decide +kernel) (pa_cons pe_int (pa_cons (pe_callB (cc_len (K := K)) (by rfl) T.n_len (by decide +kernel) (pa_cons (cv 0) pa_nil)) pa_nil))) pa_nil))) pa_nil)) (pg_name (i := 1) sc_law.nd rfl (by first | exact Or.inl rfl | exact Or.inr rfl))
        (pss_cons (ps_set (i := 2) sc_law.nd rfl (by first | exact Or.inl rfl | exact Or.inr rfl) (pe_call (ok_law_source T) (hr.mono (by decide)) rfl T.m_law_source T.k_law_source T.b_law_source .nil pass0 (pa_cons (cv 0) (pa_cons (cv 1) pa_nil))))
        (pss_cons (ps_set (i := 3) sc_law.nd rfl (by first | exact Or.inl rfl | exact Or.inr rfl) (pe_ix (ic_seq (K := K)) (pe_lst (pa_cons pe_int (pa_cons pe_int (pa_cons pe_int pa_nil)))) (pe_call (ok_law_draw T) (hr.mono (by decide)) rfl T.m_law_draw T.k_law_draw T.b_law_draw .nil pass0 (pa_cons (cv 2) (pa_cons pe_int pa_nil))) (fun _ _ => rfl)))
        (pss_cons (ps_set (i := 4) sc_law.nd rfl (by first | exact Or.inl rfl | exact Or.inr rfl) (pe_call (ok_law_drawn_tree T) (hr.mono (by decide)) rfl T.m_law_drawn_tree T.k_law_drawn_tree T.b_law_drawn_tree .nil pass0 (pa_cons (cv 2) (pa_cons (pe_call (ok_law_draw T) (hr.mono (by decide)) rfl T.m_law_draw T.k_law_draw T.b_law_draw .nil pass0 (pa_cons (cv 2) (pa_cons pe_int pa_nil))) (pa_cons pe_int (pa_cons (cv 3) pa_nil))))))
        (pss_cons (ps_dput (hu_of hr) (cv 4) pe_str (pe_call (ok_law_some_lines T) (hr.mono (by decide)) rfl T.m_law_some_lines T.k_law_some_lines T.b_law_some_lines .nil pass0 (pa_cons (cv 2) (pa_cons pe_int (pa_cons (cv 3) pa_nil)))) rfl)
        (pss_cons (ps_set (i := 5) sc_law.nd rfl (by first | exact Or.inl rfl | exact Or.inr rfl) (pe_call (ok_law_built T) (hr.mono (by decide)) rfl T.m_law_built T.k_law_built T.b_law_built .nil pass0 (pa_cons (cv 4) pa_nil)))
        (pss_cons (ps_set (i := 6) sc_law.nd rfl (by first | exact Or.inl rfl | exact Or.inr rfl) (pe_call (ok_law_exact_patch T) (hr.mono (by decide)) rfl T.m_law_exact_patch T.k_law_exact_patch T.b_law_exact_patch .nil pass0 (pa_cons (cv 2) (pa_cons (cv 4) (pa_cons pe_str (pa_cons (cv 3) pa_nil))))))
        (pss_cons (ps_set (i := 7) sc_law.nd rfl (by first | exact Or.inl rfl | exact Or.inr rfl) (pe_call (ok_law_exact_hunks T) (hr.mono (by decide)) rfl T.m_law_exact_hunks T.k_law_exact_hunks T.b_law_exact_hunks .nil pass0 (pa_cons (cv 2) (pa_cons (pe_dget (hu_of hr) (cv 4) pe_str (fun _ _ => rfl)) (pa_cons pe_int (pa_cons (cv 3) pa_nil))))))
        (pss_cons (PS.cut (cs_if (PW.pt (cw_and (ct_cmp (oc_neE (K := K) hr.units) (cv 7) (pe_lst pa_nil) (nomark _)) (pw_and1 (ct_cmp (oc_eq (K := K) hr.units) (pe_call (ok_law_draw T) (hr.mono (by decide)) rfl T.m_law_draw T.k_law_draw T.b_law_draw .nil pass0 (pa_cons (cv 2) (pa_cons pe_int pa_nil))) pe_int (nomark _)))))
          (pss_cons (ps_set (i := 8) sc_law.nd rfl (by first | exact Or.inl rfl | exact Or.inr rfl) (pe_make T.mk_Edit (ok_Edit_XinitX T) (hr.mono (by decide)) rfl T.mg_Edit T.b_Edit_XinitX .nil passL (pa_cons pe_str (pa_cons (pe_callTy (cc_tuple (K := K)) (by rfl) T.n_tuple (by decide +kernel) (pa_cons (pe_lc (own := [("_law_at", 9), ("_law_before", 10), ("_law_after", 11)]) (g := gTup K 3 (gCons (gName 9) (gCons (gName 10) (gCons (gName 11) (gNil))))) (by rfl) sc_law.nd  (pic_seq (K := K) (cv 7)) (blkOk_by (own := [("_law_at", 9), ("_law_before", 10), ("_law_after", 11)]) (N := N_law) (sc := defScope s_law) (by decide +kernel)) (fun _ _ _ _ _ => pg_tup rfl (pgs_cons (pg_name (i := 9) sc_law.nd rfl (by first | exact Or.inl rfl | exact Or.inr rfl)) (pgs_cons (pg_name (i := 10) sc_law.nd rfl (by first | exact Or.inl rfl | exact Or.inr rfl)) (pgs_cons (pg_name (i := 11) sc_law.nd rfl (by first | exact Or.inl rfl | exact Or.inr rfl)) pgs_nil)))) (fun _ _ _ _ _ => pts_nil) (fun _ _ _ _ _ => pe_make T.mk_Hunk (ok_Hunk_XinitX T) (hr.mono (by decide)) rfl T.mg_Hunk T.b_Hunk_XinitX .nil passL (pa_cons (cv 9) (pa_cons (cv 10) (pa_cons (cv 11) pa_nil))))) pa_nil)) pa_nil))))
          (pss_one (ps_set (i := 6) sc_law.nd rfl (by first | exact Or.inl rfl | exact Or.inr rfl) (pe_cmS (pe_glob (v := .ref ad.c_Patch) rfl T.mg_Patch rfl) T.cr_Patch T.cm_Patch_of (FnOk.r (ok_Patch_of T) T.b_Patch_of) (hr.mono (by decide)) (E := fun _ => E0) (fun σ => passLS σ) (pa_cons pe_str (pa_cons (pe_op op_addT (pe_callTy (cc_tuple (K := K)) (by rfl) T.n_tuple (by decide +kernel) (pa_cons (pe_lc (own := [("_law_one", 12)]) (g := gName 12) (by rfl) sc_law.nd  (pic_seq (K := K) (ce_fld (K := K) (cv 6) rfl)) (blkOk_by (own := [("_law_one", 12)]) (N := N_law) (sc := defScope s_law) (by decide +kernel)) (fun _ _ _ _ _ => pg_name (i := 12) sc_law.nd rfl (by first | exact Or.inl rfl | exact Or.inr rfl)) (fun _ _ _ _ _ => pts_one (ct_cmp (oc_ne (K := K) hr.units) (ce_fld (K := K) (cv 12) rfl) pe_str (nomark _))) (fun _ _ _ _ _ => cv 12)) pa_nil)) (pe_tup (pa_cons (cv 8) pa_nil))) pa_nil))))))
          pss_nil))
        (pss_cons (ps_set (i := 13) sc_law.nd rfl (by first | exact Or.inl rfl | exact Or.inr rfl) (pe_call (ok_reversed_patch T) (hr.mono (by decide)) rfl T.m_reversed_patch T.k_reversed_patch T.b_reversed_patch .nil pass0 (pa_cons (cv 6) pa_nil)))
        (pss_cons (ps_setLc (i := 14) (own := [("_law_change", 15)]) (g := gName 15) (by rfl) sc_law.nd rfl rfl (sw_true rfl rfl rfl (by decide +kernel)) (pic_seq (K := K) (ce_fld (K := K) (cv 6) rfl)) (blkOk_by (own := [("_law_change", 15)]) (N := N_law) (sc := defScope s_law) (by decide +kernel)) (fun _ _ _ _ _ => pg_name (i := 15) sc_law.nd rfl (by first | exact Or.inl rfl | exact Or.inr rfl)) (fun _ _ _ _ _ => pts_nil) (fun _ _ _ _ _ => ce_fld (K := K) (cv 15) rfl))
        (pss_cons (cs_if (PW.pt (cw_or (ct_cmp (oc_ne (K := K) hr.units) (ce_fld (K := K) (cv 13) rfl) pe_str (nomark _)) (pw_or1 (ct_cmp (oc_ne (K := K) hr.units) (pe_lc (own := [("_law_change", 15)]) (g := gName 15) (by rfl) sc_law.nd  (pic_seq (K := K) (ce_fld (K := K) (cv 13) rfl)) (blkOk_by (own := [("_law_change", 15)]) (N := N_law) (sc := defScope s_law) (by decide +kernel)) (fun _ _ _ _ _ => pg_name (i := 15) sc_law.nd rfl (by first | exact Or.inl rfl | exact Or.inr rfl)) (fun _ _ _ _ _ => pts_nil) (fun _ _ _ _ _ => ce_fld (K := K) (cv 15) rfl)) (cv 14) (nomark _)))))
          (pss_one (ps_ret pe_bl))
          pss_nil)
        (pss_cons (ps_for PassesOwn.never rfl (pi_zipAK (by rfl) T.n_zip (pa_cons (ce_fld (K := K) (cv 6) rfl) (pa_cons (ce_fld (K := K) (cv 13) rfl) pa_nil))) (pg_tup rfl (pgs_cons (pg_name (i := 15) sc_law.nd rfl (by first | exact Or.inl rfl | exact Or.inr rfl)) (pgs_cons (pg_name (i := 16) sc_law.nd rfl (by first | exact Or.inl rfl | exact Or.inr rfl)) pgs_nil)))
          (pss_one (cs_if (ct_val (pe_callB (cc_isi (K := K)) (by rfl) T.n_isinstance (by decide +kernel) (pa_cons (cv 15) (pa_cons (pe_glob (v := .ref ad.c_Edit) rfl T.mg_Edit rfl) pa_nil))))
            (pss_cons (ps_set (i := 17) sc_law.nd rfl (by first | exact Or.inl rfl | exact Or.inr rfl) pe_int)
            (pss_cons (cs_if (PW.pt (cw_or (pt_not (ct_val (pe_callB (cc_isi (K := K)) (by rfl) T.n_isinstance (by decide +kernel) (pa_cons (cv 16) (pa_cons (pe_glob (v := .ref ad.c_Edit) rfl T.mg_Edit rfl) pa_nil))))) (pw_or1 (ct_cmp (oc_ne (K := K) hr.units) (pe_callB (cc_len (K := K)) (by rfl) T.n_len (by decide +kernel) (pa_cons (ce_fld (K := K) (cv 16) rfl) pa_nil)) (pe_callB (cc_len (K := K)) (by rfl) T.n_len (by decide +kernel) (pa_cons (ce_fld (K := K) (cv 15) rfl) pa_nil)) (nomark _)))))
              (pss_one (ps_ret pe_bl))
              pss_nil)
            (pss_one (ps_for PassesOwn.never rfl (pi_zipAK (by rfl) T.n_zip (pa_cons (ce_fld (K := K) (cv 15) rfl) (pa_cons (ce_fld (K := K) (cv 16) rfl) pa_nil))) (pg_tup rfl (pgs_cons (pg_name (i := 18) sc_law.nd rfl (by first | exact Or.inl rfl | exact Or.inr rfl)) (pgs_cons (pg_name (i := 19) sc_law.nd rfl (by first | exact Or.inl rfl | exact Or.inr rfl)) pgs_nil)))
              (pss_cons (cs_if (PW.pt (cw_or (ct_cmp (oc_ne (K := K) hr.units) (ce_fld (K := K) (cv 19) rfl) (pe_op (oc_add (K := K)) (ce_fld (K := K) (cv 18) rfl) (cv 17)) (nomark _)) (pw_or1 (ct_cmp (op_cmpB (ne := true) (rcB_pairsK (K := K)) (hr.mono (by decide))) (pe_tup (pa_cons (ce_fld (K := K) (cv 19) rfl) (pa_cons (ce_fld (K := K) (cv 19) rfl) pa_nil))) (pe_tup (pa_cons (ce_fld (K := K) (cv 18) rfl) (pa_cons (ce_fld (K := K) (cv 18) rfl) pa_nil))) (nomark _)))))
                (pss_one (ps_ret pe_bl))
                pss_nil)
              (pss_one (ps_set (i := 17) sc_law.nd rfl (by first | exact Or.inl rfl | exact Or.inr rfl) (pe_op oc_sub (pe_op (oc_add (K := K)) (cv 17) (pe_callB (cc_len (K := K)) (by rfl) T.n_len (by decide +kernel) (pa_cons (ce_fld (K := K) (cv 18) rfl) pa_nil))) (pe_callB (cc_len (K := K)) (by rfl) T.n_len (by decide +kernel) (pa_cons (ce_fld (K := K) (cv 18) rfl) pa_nil))))))))))
            (pss_cons (ps_set (i := 20) sc_law.nd rfl (by first | exact Or.inl rfl | exact Or.inr rfl) (pe_cmpR (oc_eq (K := K) hr.units) (pe_callB (cc_isi (K := K)) (by rfl) T.n_isinstance (by decide +kernel) (pa_cons (cv 16) (pa_cons (pe_glob (v := .ref ad.c_Remove) rfl T.mg_Remove rfl) pa_nil))) (pe_callB (cc_isi (K := K)) (by rfl) T.n_isinstance (by decide +kernel) (pa_cons (cv 15) (pa_cons (pe_glob (v := .ref ad.c_Create) rfl T.mg_Create rfl) pa_nil))) (nomark _)))
            (pss_one (cs_if (PW.pt (cw_or (ct_val (pe_callB (cc_isi (K := K)) (by rfl) T.n_isinstance (by decide +kernel) (pa_cons (cv 16) (pa_cons (pe_glob (v := .ref ad.c_Edit) rfl T.mg_Edit rfl) pa_nil)))) (cw_or (pt_not (ct_val (cv 20))) (pw_or1 (ct_cmp (oc_ne (K := K) hr.units) (ce_fld (K := K) (cv 16) rfl) (ce_fld (K := K) (cv 15) rfl) (nomark _))))))
              (pss_one (ps_ret pe_bl))
              pss_nil))))))
        (pss_one (cs_if (PW.pt (cw_or (ct_cmp (op_cmpB (ne := true) (rcB_ownK (K := K) (ok_Tree_XeqX T) T.fn_Tree_XeqX T.b_Tree_XeqX pass0) (hr.mono (by decide))) (pe_call (ok_apply_patch T) (hr.mono (by decide)) rfl T.m_apply_patch T.k_apply_patch T.b_apply_patch .nil pass0 (pa_cons (pe_call (ok_apply_patch T) (hr.mono (by decide)) rfl T.m_apply_patch T.k_apply_patch T.b_apply_patch .nil pass0 (pa_cons (cv 5) (pa_cons (cv 6) pa_nil))) (pa_cons (cv 13) pa_nil))) (cv 5) (nomark _)) (pw_or1 (ct_cmp (op_cmpB (ne := true) (rcB_ownK (K := K) (ok_Patch_XeqX T) T.fn_Patch_XeqX T.b_Patch_XeqX pass0) (hr.mono (by decide))) (pe_call (ok_reversed_patch T) (hr.mono (by decide)) rfl T.m_reversed_patch T.k_reversed_patch T.b_reversed_patch .nil pass0 (pa_cons (cv 13) pa_nil)) (cv 6) (nomark _)))))
          (pss_one (ps_ret pe_bl))
          pss_nil)))))))))))))))
      (pss_one (ps_ret pe_bl)), ?_⟩
    tm_at "w"
    refine ⟨_, .inl ha, ?_⟩
    rw [List.length_map]
    refine ⟨_, rfl, by omega, by omega, ?_⟩
    refine for_range (lo := 0) (n := (max 1 (min 3 (ns.length : Int))).toNat) (fun i σ H' => ∃ (u1 u2 u3 u4 u5 u6 u7 u8 u9 u10 u11 u12 u13 u14 u15 u16 u17 u18 u19 u20 : Option V), σ = [some (.ref a), u1, u2, u3, u4, u5, u6, u7, u8, u9, u10, u11, u12, u13, u14, u15, u16, u17, u18, u19, u20] ∧ Same H H') ⟨_, _, _, _, _, _, _, _, _, _, _, _, _, _, _, _, _, _, _, _, rfl, Same.refl _⟩ ?_ (fun σ H' _ => q H')
    rintro i σ H1 hi ⟨u1, u2, u3, u4, u5, u6, u7, u8, u9, u10, u11, u12, u13, u14, u15, u16, u17, u18, u19, u20, rfl, s1⟩
    refine ⟨a, _, ns, rfl, s1.seq ha, hns, by omega, by omega, fun s xs hs hx => ?_⟩
    have sS : SameB s H1 (upd H1 s (.lst xs)) := SameB.at
    have gs : (upd H1 s (.lst xs)) s = some (.lst xs) := upd_same
    generalize upd H1 s (HO.lst xs) = G at sS gs ⊢
    -- the words
    refine ⟨by show 3 ≤ sizeLine; decide, fun e he => ?_⟩
    have nse : s ≠ e := ne_of_none gs he
    refine ⟨s, _, _, xs, rfl, upd_oth nse gs, hx, by omega, by decide, by decide, fun dw ys1 hw0 hw1 hy1 => ?_⟩
    obtain ⟨words, hwm, hwa⟩ := atI_ints (ls := [0, 2, 4]) hw0 hw1
    refine ⟨_, _, .inl (SqL.of (upd_oth nse.symm upd_same)), hwa, ?_⟩
    have hwords : words ≤ 5 := by
      have : ∀ z ∈ ([0, 2, 4] : List Int), z ≤ 5 := by decide
      exact this words hwm
    have s2 : SameB s H1 (upd (upd G e (.lst [.int 0, .int 2, .int 4])) s (.lst ys1)) := (sS.trans (SameB.new he)).ws
    have gs2 : (upd (upd G e (.lst [.int 0, .int 2, .int 4])) s (.lst ys1)) s = some (.lst ys1) := upd_same
    generalize upd (upd G e (.lst [.int 0, .int 2, .int 4])) s (HO.lst ys1) = G2 at s2 gs2 ⊢
    clear hwa hwm he sS gs nse
    -- the files
    refine ⟨s, _, _, ys1, rfl, gs2, hy1, by omega, by decide, by decide, fun many ys2 hm0 hm1 hy2 => ?_⟩
    refine ⟨s, many, 9, words, _, ys2, rfl, upd_same, hy2, by omega, hm0, by omega, by decide, by decide, hwords, fun d fs0 ys4 G4 nd0 hf0 hl0 hdn hD hs4 hy4 b4 => ?_⟩
    have s4 : SameB s H1 G4 := (s2.ws).trans b4
    have hy4 : SrcL 1000 ys4 := hy4.mono (by omega)
    have nds : d ≠ s := by
      obtain ⟨kv, h1, _⟩ := hD
      exact fun z => by subst z; rw [h1] at hs4; cases hs4
    have hd1 : H1 d = none := (s2.ws (H1 := G2)).free nds hdn
    clear s2 gs2 b4 hdn hy2 hy1
    -- a long file
    refine ⟨s, 200, words, _, ys4, rfl, hs4, hy4, by omega, by decide, by decide, hwords, fun ll p ys6 G6 hl hls hp hp3 hs6 hy6 b6 => ?_⟩
    have fd0 : FsD fs0 := ⟨⟨nd0, fun f hf => (paths8_ok f.1 (hf0 f hf).1).1, by omega⟩, by omega, fun f hf => ⟨(paths8_ok f.1 (hf0 f hf).1).2.2.1, (paths8_ok f.1 (hf0 f hf).1).2.2.2, by have := (hf0 f hf).2.1; omega⟩⟩
    obtain ⟨kv0, h1, h2⟩ := hD
    have h16 := b6.get nds h1
    have h26 := flL_src hs4 hy4 h2 b6
    have hlk := h26.len
    refine ⟨d, _, rfl, DPut.k (k := Sum.inr ("long" : Str)) h16 (by rw [sizeLine_eq]; omega), ?_⟩
    have hD5 : DcL (upd G6 d (.dK (putK kv0 (Sum.inr ("long" : Str)) (.ref p)))) d (putF' fs0 "long" ll) := ⟨_, upd_same, FlR.mono (h26.put ⟨p, rfl, hp3⟩) (fun v ls' ⟨p', e, hp'⟩ => ⟨p', e, upd_oth (fun z => by subst z; rw [h16] at hp'; cases hp') hp'⟩)⟩
    have s5 : SameB s H1 (upd G6 d (.dK (putK kv0 (Sum.inr ("long" : Str)) (.ref p)))) := (s4.trans b6).wr hd1
    have hs5 : (upd G6 d (.dK (putK kv0 (Sum.inr ("long" : Str)) (.ref p)))) s = some (.lst ys6) := upd_oth nds.symm hs6
    have hgl : getF (putF' fs0 "long" ll) "long" = some ll := by rw [getF_put, if_pos rfl]
    have hlp := length_put (fs := fs0) (p := ("long" : Str)) (x := ll)
    obtain ⟨⟨g1, g2, g3⟩, g4, g5⟩ := fd0
    have hfd : FsD (putF' fs0 "long" ll) := by
      refine ⟨⟨nodup_put g1, fun f hf => ?_, by omega⟩, by omega, fun f hf => ?_⟩
      · rcases mem_put hf with e | e
        · subst e; exact okLong
        · exact g2 f e
      · rcases mem_put hf with e | e
        · subst e; exact ⟨long_na, long_nb, by show ll.length ≤ _; omega⟩
        · exact g5 f e
    generalize upd G6 d (HO.dK (putK kv0 (Sum.inr ("long" : Str)) (.ref p))) = G5 at hD5 s5 hs5 ⊢
    generalize putF' fs0 "long" ll = fs at hD5 hgl hfd ⊢
    have hy5 : SrcL 3000 ys6 := hy6.mono (by show _ ≤ _; omega)
    clear h1 h2 h16 h26 hlk hp3 hs6 hy6 b6 hs4 hy4 s4 hf0 nd0 hl0 hls hp hlp g1 g2 g3 g4 g5
    obtain ⟨fo, fl, fd⟩ := id hfd
    -- the tree, the patch
    refine ⟨d, fs, rfl, hD5, fo, fun tr G6 s6 T6 => ?_⟩
    refine ⟨s, d, "patch", words, fs, _, ys6, rfl, s6 _ _ hs5, hy5, by decide, hD5.same s6, hfd, nmPatch, hwords, fun pt cs ys7 G7 P7 ndc srt hcs hcl hs7 hy7 b7 => ?_⟩
    have T7 := T6.sameL (s6 _ _ hs5) b7
    have D7 := (hD5.same s6).src (s6 _ _ hs5) hy5 b7
    have s7 : SameB s H1 G7 := s5.trans ((SameB.of s6).trans b7)
    clear T6 hD5 hs5 s5 b7 s6
    -- rows
    obtain ⟨kv, hd7, hf7⟩ := id D7
    obtain ⟨v, hv, u, rfl, hu⟩ := hf7.of_some hgl
    have hll : ll.length ≤ 10 ^ 4 := (fd _ (getF_mem hgl)).2.2
    refine ⟨d, _, rfl, hv ▸ DGet.k (k := Sum.inr ("long" : Str)) hd7, ?_⟩
    refine ⟨s, u, ll, 90, words, _, ys7, rfl, hs7, hy7, by decide, hu, by omega, by decide, by decide, hwords, fun rq ts hks ys8 G8 _ hr hrw hkd hasc hlen h8 hy8 b8 => ?_⟩
    have T8 := T7.sameL hs7 b8
    have P8 : PtAt K ad G8 pt ⟨"patch", cs⟩ := P7.sameL hs7 b8
    have s8 := s7.trans b8
    clear hd7 hu hs7 s7 T7 D7 hf7 hy7 P7 b8
    refine ⟨fun σ' H' => ∃ (pt : Addr) (cs : List Ch) (ys : List V) (u8 u9 u10 u11 u12 : Option V), σ' = [some (.ref a), some (.int (0 + (i : Int))), some (.ref s), some (.int words), some (.ref d), some (.ref tr), some (.ref pt), some (.ref rq), u8, u9, u10, u11, u12, u13, u14, u15, u16, u17, u18, u19, u20] ∧ PtAt K ad H' pt ⟨"patch", cs⟩ ∧ (cs.map Ch.path).Nodup ∧ PyProof.Rows.sortedS (cs.map Ch.path) = true ∧ (∀ c ∈ cs, ChD fs 90 c ∧ PathOk c.path) ∧ cs.length ≤ 13 ∧ TrAt ad H' tr fs ∧ SameB s H1 H', ?_, ?_⟩
    · have fdn := fd
      have no : ∀ (ys : List V) G, SameB s G8 G → TrAt ad G tr fs → PtAt K ad G pt ⟨"patch", cs⟩ → ∃ (pt' : Addr) (cs : List Ch) (ys : List V) (u8' u9' u10' u11' u12' : Option V), [some (V.ref a), some (.int (0 + (i : Int))), some (.ref s), some (.int words), some (.ref d), some (.ref tr), some (.ref pt), some (.ref rq), u8, u9, u10, u11, u12, u13, u14, u15, u16, u17, u18, u19, u20] = [some (.ref a), some (.int (0 + (i : Int))), some (.ref s), some (.int words), some (.ref d), some (.ref tr), some (.ref pt'), some (.ref rq), u8', u9', u10', u11', u12', u13, u14, u15, u16, u17, u18, u19, u20] ∧ PtAt K ad G pt' ⟨"patch", cs⟩ ∧ (cs.map Ch.path).Nodup ∧ PyProof.Rows.sortedS (cs.map Ch.path) = true ∧ (∀ c ∈ cs, ChD fs 90 c ∧ PathOk c.path) ∧ cs.length ≤ 13 ∧ TrAt ad G tr fs ∧ SameB s H1 G :=
        fun ys G sG tG pG => ⟨pt, cs, ys, _, _, _, _, _, rfl, pG, ndc, srt, fun c hc => ⟨(hcs c hc).1.mono (by decide), (hcs c hc).2⟩, by omega, tG, s8.trans sG⟩
      refine ⟨Nat.zero_le _, fun e he => ?_⟩
      have sE : Same G8 (upd G8 e (.lst [])) := Same.new he
      refine ⟨_, _, _, _, rfl, rfl, SqL.of (sE _ _ hr), SqL.of upd_same, .inr rfl, ?_⟩
      generalize upd G8 e (HO.lst []) = G10 at sE ⊢
      refine ⟨fun hne => ?_, fun hne => .f (no ys8 _ (SameB.of sE) (T8.same sE) (P8.same sE))⟩
      have hne : hks ≠ [] := by
        intro z
        have e1 := prd_len hrw
        rw [z] at e1
        rw [List.length_map, e1] at hne
        exact absurd hne (by decide)
      refine ⟨s, _, _, ys8, rfl, sE _ _ h8, hy8, by omega, by decide, by decide, fun d4 ys9 _ _ hy9 => ?_⟩
      have sF : SameB s G8 (upd G10 s (.lst ys9)) := (SameB.of sE).ws
      have nrq : rq ≠ s := fun z => by subst z; rw [hr] at h8; obtain ⟨x1, x2, x3, rfl, _⟩ := hy8; cases ts with
        | nil => cases h8
        | cons x t => cases h8
      have hr' := sF.get nrq hr
      have T' := T8.sameL h8 sF
      have P' : PtAt K ad (upd G10 s (.lst ys9)) pt ⟨"patch", cs⟩ := P8.sameL h8 sF
      have W' : Paired (RwAt (upd G10 s (.lst ys9))) ts hks := prd_mono (fun _ _ g => RwAt.sameO h8 (fun _ z => nomatch z) sF g) hrw
      generalize upd G10 s (HO.lst ys9) = G11 at sF hr' T' P' W' ⊢
      refine ⟨fun _ => ?_, fun _ => no ys9 _ sF T' P'⟩
      have hlt := prd_len hrw
      refine .inl ⟨rq, rfl, ⟨_, SqL.of hr'⟩, fun D hD => ?_⟩
      refine lc_fl (walk_list (xs := ts.map V.ref)) (fun _ => true) (fun y h H' => ∃ a, y = .ref a ∧ HkAt K ad H' a h) (xs := hks) (by rw [List.length_map, hlt]) (fun y h H3 H4 acc hD3 s3 ⟨a, e1, dx, b, c, g1, g2, g3⟩ => ⟨a, e1, dx, b, c, s3.get (fun z => by subst z; rw [hD3] at g1; cases g1) g1, s3.get (fun z => by subst z; rw [hD3] at g2; cases g2) g2, s3.get (fun z => by subst z; rw [hD3] at g3; cases g3) g3⟩) hD (by rw [List.length_map, hlt]; omega) (fun H3 s3 => SqL.of (s3 _ _ hr')) ?_ ?_
      · rintro j h x H3 H4 Nx Nz eh s3 ⟨rfl, hx⟩ k1 _
        rw [List.getElem?_map] at hx
        obtain ⟨t, et, rfl⟩ := Option.map_eq_some_iff.mp hx
        obtain ⟨h', eh', b, c, z1, z2, z3⟩ := prd_get (prd_mono (fun _ _ g => RwAt.same g s3) W') et
        rw [eh] at eh'
        cases eh'
        have hh := hkd h (List.mem_of_getElem? eh)
        refine ⟨t, _, rfl, SqT.of z1, rfl, ?_⟩
        refine ⟨_, _, rfl, _, _, rfl, _, _, rfl, rfl, rfl, ?_⟩
        intro x dx hx hdx _
        have s0 := mkn_same (o1 := .own x) (o2 := .ins ad.c_Hunk dx []) hx hdx
        refine ⟨x, dx, b, c, h, rfl, upd_same, s0 _ _ z2, s0 _ _ z3, by have := hh.1.1; have := hh.1.2.1; omega, fun e => (by rw [chD_bad hh] at e; cases e), fun _ H7 s7 h7 => ⟨rfl, ?_⟩⟩
        have s8 := mk_same hx hdx s7
        exact k1 rfl _ _ s8 ⟨x, rfl, dx, b, c, h7, s8 _ _ z2, s8 _ _ z3⟩
      intro H3 yv pr s3 hD3
      obtain ⟨has, rfl, pr'⟩ := refsP pr
      rw [List.filter_eq_self.mpr (fun _ _ => rfl)] at pr'
      refine ⟨_, .inl ⟨SqL.of hD3, fun tp htp => ?_⟩⟩
      have s5 := s3.trans (Same.new (o := .tup (has.map V.ref)) htp)
      intro xe dxe hxe hdxe _
      have s0 := mkn_same (o1 := .own xe) (o2 := .ins ad.c_Edit dxe []) hxe hdxe
      have fb := asc_firstBad hasc hne fun g hg => (hkd g hg).1.1
      have hks5 : HksAt K ad (upd H3 tp (.tup (has.map V.ref))) has hks := HksAt.same pr' (Same.new htp)
      refine ⟨xe, dxe, tp, "long", has, hks, rfl, upd_same, okLong, s0 _ _ upd_same, hks5.same s0, by omega, fun i z => absurd (z.uniq fb) (fun z => nomatch z), fun _ H6 s6 h6 => ⟨rfl, ?_⟩⟩
      have s7 := mk_same hxe hdxe s6
      have hE : ChAt K ad H6 xe (.edit "long" hks) := ⟨dxe, tp, has, h6, s7 _ _ upd_same, hks5.same s7⟩
      have s9 : Same G11 H6 := s5.trans s7
      clear s5 s7 s6 h6 hxe hdxe htp hD3 pr' pr s3 s0 hks5 hD
      replace T' := T'.same s9
      obtain ⟨dxp, ddp, qp, asp, p1, p2, p3⟩ := P'.same s9
      have p3 : ChsAt K ad H6 asp cs := p3
      have hla : asp.length = cs.length := prd_len p3
      refine ⟨rfl, ?_⟩
      refine .inr ⟨_, dxp, _, _, p1, T.cl_Patch.cl, T.na_Patch_changes, lkp3, qp, rfl, ⟨_, SqT.of p2⟩, fun D hD => ?_⟩
      refine lc_fl (walk_tup (xs := asp.map V.ref)) (fun c : Ch => decide (c.path ≠ "long")) (fun y c H' => ∃ b, y = .ref b ∧ ChAt K ad H' b c) (xs := cs) (by rw [List.length_map, hla]) (fun y c H3 H4 acc hD3 s3 ⟨b, z1, z2⟩ => ⟨b, z1, ChAt.sameO hD3 (fun _ _ _ _ z => nomatch z) (fun _ z => nomatch z) s3 z2⟩) hD (by rw [List.length_map, hla]; omega) (fun H3 s3 => SqT.of (s3 _ _ p2)) ?_ ?_
      · rintro j c x H3 H4 Nx Nz ec s3 ⟨rfl, hx⟩ k1 k2
        rw [List.getElem?_map] at hx
        obtain ⟨b, eb, rfl⟩ := Option.map_eq_some_iff.mp hx
        obtain ⟨c', ec', hc'⟩ := prd_get (ChsAt.same p3 s3) eb
        rw [ec] at ec'
        cases ec'
        obtain ⟨dc, fc, hb, l1, _⟩ := hc'.ins
        refine ⟨rfl, ?_⟩
        refine ⟨_, dc, _, _, hb, (chcl T c).cl, chpa T c, l1, ?_⟩
        show if (!decide (c.path = "long")) = true then _ else _
        by_cases hk : c.path = "long"
        · rw [decide_eq_true hk, if_neg (by decide)]
          exact k2 (by show decide (c.path ≠ "long") = false; simp [hk]) _ (Same.refl _)
        · rw [decide_eq_false hk, if_pos (by decide)]
          exact k1 (by show decide (c.path ≠ "long") = true; simp [hk]) _ _ (Same.refl _) ⟨b, rfl, hc'⟩
      intro H7 yv pr s3 hD3
      obtain ⟨bs, rfl, pr'⟩ := refsP pr
      have hlf := List.length_filter_le (fun c : Ch => decide (c.path ≠ "long")) cs
      have hlb := prd_len pr'
      have hmf : ∀ c ∈ cs.filter (fun c : Ch => decide (c.path ≠ "long")), c ∈ cs ∧ c.path ≠ "long" := fun c hc => ⟨(List.mem_filter.mp hc).1, of_decide_eq_true (List.mem_filter.mp hc).2⟩
      have hsub : (cs.filter (fun c : Ch => decide (c.path ≠ "long"))).Sublist cs := List.filter_sublist
      generalize cs.filter (fun c : Ch => decide (c.path ≠ "long")) = cf at pr' hlf hlb hmf hsub
      refine ⟨_, .inl ⟨SqL.of hD3, fun t1 ht1 => ?_⟩⟩
      refine ⟨by show 1 ≤ sizeLine; decide, fun t2 ht2 => ?_⟩
      have s11 : Same H6 (upd (upd H7 t1 (.tup (bs.map V.ref))) t2 (.tup [.ref xe])) := s3.trans ((Same.new ht1).trans (Same.new ht2))
      refine ⟨t1, t2, _, _, rfl, rfl, upd_new upd_same ht2, upd_same, by rw [List.length_map, sizeLine_eq]; show _ + 1 ≤ _; omega, fun t3 H9 s12 h12 => ?_⟩
      have h12 : H9 t3 = some (.tup ((bs ++ [xe]).map V.ref)) := by rw [h12, List.map_append]; rfl
      have s13 := s11.trans s12
      have hA : ChsAt K ad H9 (bs ++ [xe]) (cf ++ [.edit "long" hks]) := by
        refine prd_app (ChsAt.same pr' (((Same.new ht1).trans (Same.new ht2)).trans s12)) (.cons (hE.same s13) .nil)
      have hdc : ∀ c ∈ cf ++ [.edit "long" hks], ChD fs 90 c ∧ PathOk c.path := fun c hc => by
        rcases List.mem_append.mp hc with z | z
        · exact ⟨(hcs c (hmf c z).1).1.mono (by decide), (hcs c (hmf c z).1).2⟩
        · rw [List.mem_singleton.mp z]; exact ⟨⟨ll, hgl, hne, by omega, hasc, hkd⟩, okLong⟩
      refine ofAsk h12 hA nmPatch (by rw [List.length_append]; show _ + 1 < _; omega) (fun c hc => (hdc c hc).2.2.1) ?_ fun x H10 cs' s14 pm srt' M => ?_
      · rw [List.map_append, List.nodup_append]
        refine ⟨ndc.sublist (hsub.map _), by simp, fun a ha b hb => ?_⟩
        obtain ⟨c, hc, rfl⟩ := List.mem_map.mp ha
        have hb : b = "long" := List.mem_singleton.mp hb
        rw [hb]
        exact (hmf c hc).2
      · exact ⟨_, cs', ys9, _, _, _, _, _, rfl, M, (pm.map Ch.path).nodup_iff.mpr (by
          rw [List.map_append, List.nodup_append]
          refine ⟨ndc.sublist (hsub.map _), by simp, fun a ha b hb => ?_⟩
          obtain ⟨c, hc, rfl⟩ := List.mem_map.mp ha
          have hb : b = "long" := List.mem_singleton.mp hb
          rw [hb]
          exact (hmf c hc).2), srt', fun c hc => hdc c (pm.mem_iff.mp hc), by rw [pm.length_eq, List.length_append]; show _ + 1 ≤ 13; omega, (T'.same s13).same s14, s8.trans (sF.trans (SameB.of (s9.trans (s13.trans s14))))⟩
    clear T8 P8 s8 hcs srt ndc hcl hrw hr hkd hasc hlen h8 hy8
    clear cs pt
    rintro σ' G9 ⟨pt, cs, ys9, u8', u9', u10', u11', u12', rfl, P9, ndc, srt, hcs, hcl, T9, s9⟩
    have hcd : ∀ c ∈ cs, ExC (appP fs cs) (revC c) ∧ Bnd (revC c) ∧ RvOk c ∧ RvOk (revC c) ∧ effC (getF (appP fs cs) c.path) (revC c) = getF fs c.path ∧ ∀ ls, getF (appP fs cs) c.path = some ls → ls.length ≤ 10 ^ 6 := fun c hc => (hcs c hc).1.back (by decide) (fun ls e => (fd _ (getF_mem e)).2.2) (getF_appP_mem ndc hc)
    refine ⟨pt, ⟨"patch", cs⟩, rfl, P9, nmPatch, fun c hc => ⟨(hcd c hc).2.2.1, (hcs c hc).2⟩, ndc, srt, by show cs.length < 50; omega, fun bk G10 s10 P10 => ?_⟩
    have P10 : PtAt K ad G10 bk ⟨"patch", cs.map revC⟩ := P10
    replace T9 := T9.same s10; replace P9 := P9.same s10; replace s9 := s9.trans (SameB.of s10)
    clear s10
    obtain ⟨dxp, ddp, qp, asp, p1, p2, p3⟩ := id P9
    have p3 : ChsAt K ad G10 asp cs := p3
    have hla : asp.length = cs.length := prd_len p3
    refine .inr ⟨_, dxp, _, _, p1, T.cl_Patch.cl, T.na_Patch_changes, lkp3, qp, rfl, ⟨_, SqT.of p2⟩, fun D hD => ?_⟩
    refine lc_fl (walk_tup (xs := asp.map V.ref)) (fun _ => true) (fun y c H' => ∃ z, y = .str z ∧ z = c.path) (xs := cs) (by rw [List.length_map, hla]) (fun y c H3 H4 acc hD3 s3 h => h) hD (by rw [List.length_map, hla]; omega) (fun H3 s3 => SqT.of (s3 _ _ p2)) ?_ ?_
    · rintro j c x H3 H4 Nx Nz ec s3 ⟨rfl, hx⟩ k1 _
      rw [List.getElem?_map] at hx
      obtain ⟨b, eb, rfl⟩ := Option.map_eq_some_iff.mp hx
      obtain ⟨c', ec', hc'⟩ := prd_get (ChsAt.same p3 s3) eb
      rw [ec] at ec'
      cases ec'
      obtain ⟨dc, fc, hb, l1, _⟩ := hc'.ins
      refine ⟨rfl, ?_⟩
      exact ⟨_, dc, _, _, hb, (chcl T c).cl, chpa T c, l1, k1 rfl _ _ (Same.refl _) ⟨_, rfl, rfl⟩⟩
    intro H3 yv pr s3 hD3
    obtain ⟨zs, rfl, pr'⟩ := valsP pr
    rw [List.filter_eq_self.mpr (fun _ _ => rfl)] at pr'
    obtain rfl := prd_eqmap pr'
    replace T9 := T9.same s3; replace P9 := P9.same s3; replace P10 := P10.same s3; replace s9 := s9.trans (SameB.of s3)
    clear p1 p2 p3 s3 hD pr pr'
    obtain ⟨dxb, ddb, qb, asb, b1, b2, b3⟩ := id P10
    have b3 : ChsAt K ad H3 asb (cs.map revC) := b3
    have hlb : asb.length = cs.length := by rw [prd_len b3, List.length_map]
    refine ⟨_, dxb, _, _, b1, T.cl_Patch.cl, T.na_Patch_name, lkp1, ?_⟩
    refine .fl (by simp) ?_
    refine .inr ⟨_, dxb, _, _, b1, T.cl_Patch.cl, T.na_Patch_changes, lkp3, qb, rfl, ⟨_, SqT.of b2⟩, fun D2 hD2 => ?_⟩
    refine lc_fl (walk_tup (xs := asb.map V.ref)) (fun _ => true) (fun y c H' => ∃ z, y = .str z ∧ z = c.path) (xs := cs.map revC) (by rw [List.length_map, List.length_map, hlb]) (fun y c H3 H4 acc hD3 s3 h => h) hD2 (by rw [List.length_map, hlb]; omega) (fun H3 s3 => SqT.of (s3 _ _ b2)) ?_ ?_
    · rintro j c x H4 H5 Nx Nz ec s3 ⟨rfl, hx⟩ k1 _
      rw [List.getElem?_map] at hx
      obtain ⟨b, eb, rfl⟩ := Option.map_eq_some_iff.mp hx
      obtain ⟨c', ec', hc'⟩ := prd_get (ChsAt.same b3 s3) eb
      rw [ec] at ec'
      cases ec'
      obtain ⟨dc, fc, hb, l1, _⟩ := hc'.ins
      refine ⟨rfl, ?_⟩
      exact ⟨_, dc, _, _, hb, (chcl T c).cl, chpa T c, l1, k1 rfl _ _ (Same.refl _) ⟨_, rfl, rfl⟩⟩
    intro H4 yv2 pr2 s4 hD4
    obtain ⟨zs2, rfl, pr2'⟩ := valsP pr2
    rw [List.filter_eq_self.mpr (fun _ _ => rfl)] at pr2'
    obtain rfl := prd_eqmap pr2'
    refine .inl (rNe_strs (.inl ⟨SqL.of hD4, SqL.of (s4 _ _ hD3)⟩) ?_)
    refine .fl (by rw [List.map_map, decide_eq_true (show cs.map (Ch.path ∘ revC) = cs.map Ch.path from List.map_congr_left fun c _ => revC_path c)]; rfl) ?_
    replace T9 := T9.same s4; replace P9 := P9.same s4; replace P10 := P10.same s4; replace s9 := s9.trans (SameB.of s4)
    clear b1 b2 b3 hD3 s4 hD2 hD4 pr2 pr2'
    obtain ⟨dxp, ddp, qp, asp, p1, p2, p3⟩ := id P9
    obtain ⟨dxb, ddb, qb, asb, b1, b2, b3⟩ := id P10
    have p3 : ChsAt K ad H4 asp cs := p3
    have b3 : ChsAt K ad H4 asb (cs.map revC) := b3
    have hla : asp.length = cs.length := prd_len p3
    have hlb : asb.length = cs.length := by rw [prd_len b3, List.length_map]
    refine ⟨_, dxp, _, _, p1, T.cl_Patch.cl, T.na_Patch_changes, lkp3, ?_⟩
    refine ⟨_, dxb, _, _, b1, T.cl_Patch.cl, T.na_Patch_changes, lkp3, ?_⟩
    refine ⟨qp, qb, _, _, rfl, .inr ⟨SqT.of p2, SqT.of b2, ?_⟩⟩
    refine for_it (n := cs.length) (walk_zipT (xs := asp.map V.ref) (ys := asb.map V.ref) (by rw [List.length_map, List.length_map, hla, hlb]; omega)) (fun _ σ H' => ∃ (w15 w16 w17 w18 w19 w20 : Option V), σ = [some (.ref a), some (.int (0 + (i : Int))), some (.ref s), some (.int words), some (.ref d), some (.ref tr), some (.ref pt), some (.ref rq), u8', u9', u10', u11', u12', some (.ref bk), some (.ref D), w15, w16, w17, w18, w19, w20] ∧ Same H4 H')
      ⟨_, _, _, _, _, _, rfl, Same.refl _⟩ (fun i σ H' _ ⟨_, _, _, _, _, _, _, s5⟩ => ⟨SqT.of (s5 _ _ p2), SqT.of (s5 _ _ b2)⟩) ?_ ?_
    · rintro j v σ H5 Hx hj ⟨w15, w16, w17, w18, w19, w20, rfl, s5⟩ ⟨T0, x, y, rfl, hT0, rfl, hx, hy⟩
      replace hx : (asp.map V.ref)[j]? = some x := hx
      replace hy : (asb.map V.ref)[j]? = some y := hy
      rw [List.getElem?_map] at hx hy
      obtain ⟨b, eb, rfl⟩ := Option.map_eq_some_iff.mp hx
      obtain ⟨b', eb', rfl⟩ := Option.map_eq_some_iff.mp hy
      refine ⟨T0, _, rfl, SqT.of upd_same, rfl, _, _, rfl, _, _, rfl, rfl, ?_⟩
      replace s5 : Same H4 (upd H5 T0 (.tup [.ref b, .ref b'])) := s5.trans (Same.new hT0)
      generalize upd H5 T0 (HO.tup [V.ref b, V.ref b']) = H6 at s5 ⊢
      obtain ⟨c, ec, hc⟩ := prd_get (ChsAt.same p3 s5) eb
      obtain ⟨c', ec', hc'⟩ := prd_get (ChsAt.same b3 s5) eb'
      rw [List.getElem?_map, ec] at ec'
      cases ec'
      obtain ⟨dc, fc, ic, lc, _⟩ := hc.ins
      obtain ⟨dc', fc', ic', lc', _⟩ := hc'.ins
      have hD := (hcs c (List.mem_of_getElem? ec)).1
      cases c with
      | base p => exact hD.elim
      | create p ls =>
        refine ⟨_, false, T.cl_Create.ins ic, T.cl_Edit.kit T.se_Create (fun h => absurd (Value.ref.inj h) T.nqe_Create), .f ?_⟩
        refine ⟨_, true, T.cl_Remove.ins ic', T.cl_Remove.kit T.sr_Remove (fun _ => rfl), ?_⟩
        refine ⟨_, true, T.cl_Create.ins ic, T.cl_Create.kit T.sc_Create (fun _ => rfl), ?_⟩
        refine ⟨_, false, T.cl_Remove.ins ic', T.cl_Edit.kit T.se_Remove (fun h => absurd (Value.ref.inj h) T.nqe_Remove), .f ?_⟩
        refine .fl rfl ?_
        obtain ⟨dd, q1, z1, z2⟩ := hc
        obtain ⟨dd', q2, z3, z4⟩ := hc'
        refine ⟨_, dd', _, _, z3, T.cl_Remove.cl, T.na_Remove_lines, lk_li, ?_⟩
        refine ⟨_, dd, _, _, z1, T.cl_Create.cl, T.na_Create_lines, lk_li, ?_⟩
        refine .inl (rNe_strs (.inr ⟨SqT.of z4, SqT.of z2⟩) ?_)
        refine .fl (by simp) ?_
        exact ⟨_, _, _, _, _, _, rfl, s5⟩
      | remove p ls =>
        refine ⟨_, false, T.cl_Remove.ins ic, T.cl_Edit.kit T.se_Remove (fun h => absurd (Value.ref.inj h) T.nqe_Remove), .f ?_⟩
        refine ⟨_, false, T.cl_Create.ins ic', T.cl_Remove.kit T.sr_Create (fun h => absurd (Value.ref.inj h) T.nqCR), ?_⟩
        refine ⟨_, false, T.cl_Remove.ins ic, T.cl_Create.kit T.sc_Remove (fun h => absurd (Value.ref.inj h).symm T.nqCR), ?_⟩
        refine ⟨_, false, T.cl_Create.ins ic', T.cl_Edit.kit T.se_Create (fun h => absurd (Value.ref.inj h) T.nqe_Create), .f ?_⟩
        refine .fl rfl ?_
        obtain ⟨dd, q1, z1, z2⟩ := hc
        obtain ⟨dd', q2, z3, z4⟩ := hc'
        refine ⟨_, dd', _, _, z3, T.cl_Create.cl, T.na_Create_lines, lk_li, ?_⟩
        refine ⟨_, dd, _, _, z1, T.cl_Remove.cl, T.na_Remove_lines, lk_li, ?_⟩
        refine .inl (rNe_strs (.inr ⟨SqT.of z4, SqT.of z2⟩) ?_)
        refine .fl (by simp) ?_
        exact ⟨_, _, _, _, _, _, rfl, s5⟩
      | edit p hs =>
        refine ⟨_, true, T.cl_Edit.ins ic, T.cl_Edit.kit T.se_Edit (fun _ => rfl), .t ?_⟩
        refine ⟨_, true, T.cl_Edit.ins ic', T.cl_Edit.kit T.se_Edit (fun _ => rfl), ?_⟩
        refine .fl rfl ?_
        obtain ⟨dd, q1, as1, z1, z2, z5⟩ := hc
        obtain ⟨dd', q2, as2, z3, z4, z6⟩ := hc'
        have l1 : as1.length = hs.length := prd_len z5
        have l2 : as2.length = hs.length := by rw [prd_len z6, revHs_len]
        refine ⟨_, dd', _, _, z3, T.cl_Edit.cl, T.na_Edit_hunks, lk_hu, _, .inr (SqT.of z4), ?_⟩
        refine ⟨_, dd, _, _, z1, T.cl_Edit.cl, T.na_Edit_hunks, lk_hu, _, .inr (SqT.of z2), ?_⟩
        refine .fl (by rw [List.length_map, List.length_map, l1, l2]; simp) ?_
        refine ⟨_, dd, _, _, z1, T.cl_Edit.cl, T.na_Edit_hunks, lk_hu, ?_⟩
        refine ⟨_, dd', _, _, z3, T.cl_Edit.cl, T.na_Edit_hunks, lk_hu, ?_⟩
        refine ⟨q1, q2, _, _, rfl, .inr ⟨SqT.of z2, SqT.of z4, ?_⟩⟩
        refine for_it (n := hs.length) (walk_zipT (xs := as1.map V.ref) (ys := as2.map V.ref) (by rw [List.length_map, List.length_map, l1, l2]; omega)) (fun k σ H' => ∃ (v18 v19 : Option V), σ = [some (.ref a), some (.int (0 + (i : Int))), some (.ref s), some (.int words), some (.ref d), some (.ref tr), some (.ref pt), some (.ref rq), u8', u9', u10', u11', u12', some (.ref bk), some (.ref D), some (.ref b), some (.ref b'), some (.int (grs hs k)), v18, v19, w20] ∧ Same H6 H')
          ⟨_, _, rfl, Same.refl _⟩ (fun i σ H' _ ⟨_, _, _, s7⟩ => ⟨SqT.of (s7 _ _ z2), SqT.of (s7 _ _ z4)⟩) ?_ ?_
        · rintro k v σ H7 Hy hk ⟨v18, v19, rfl, s7⟩ ⟨T1, x, y, rfl, hT1, rfl, hx, hy⟩
          replace hx : (as1.map V.ref)[k]? = some x := hx
          replace hy : (as2.map V.ref)[k]? = some y := hy
          rw [List.getElem?_map] at hx hy
          obtain ⟨h1, eh1, rfl⟩ := Option.map_eq_some_iff.mp hx
          obtain ⟨h2, eh2, rfl⟩ := Option.map_eq_some_iff.mp hy
          refine ⟨T1, _, rfl, SqT.of upd_same, rfl, _, _, rfl, _, _, rfl, rfl, ?_⟩
          replace s7 : Same H6 (upd H7 T1 (.tup [.ref h1, .ref h2])) := s7.trans (Same.new hT1)
          generalize upd H7 T1 (HO.tup [V.ref h1, V.ref h2]) = H8 at s7 ⊢
          obtain ⟨g, eg, hg⟩ := prd_get (z5.same s7) eh1
          obtain ⟨g', eg', hg'⟩ := prd_get (z6.same s7) eh2
          rw [revHs_at eg] at eg'
          cases eg'
          obtain ⟨dg, m1, m2, y1, y2, y3⟩ := hg
          obtain ⟨dg', m1', m2', y1', y2', y3'⟩ := hg'
          refine ⟨_, dg', _, _, y1', T.cl_Hunk.cl, T.na_Hunk_at, lk_at, ?_⟩
          refine ⟨_, dg, _, _, y1, T.cl_Hunk.cl, T.na_Hunk_at, lk_at, ?_⟩
          refine .fl (by rw [show g.pl + (0 + grs hs k) = g.pl + grs hs k by omega]; simp) ?_
          refine ⟨_, dg', _, _, y1', T.cl_Hunk.cl, T.na_Hunk_before, lk_be, ?_⟩
          refine ⟨_, dg', _, _, y1', T.cl_Hunk.cl, T.na_Hunk_after, lk_af, ?_⟩
          refine ⟨by show 2 ≤ sizeLine; decide, fun t1 ht1 => ?_⟩
          have sa : Same H8 (upd H8 t1 (.tup [.ref m1', .ref m2'])) := Same.new ht1
          refine ⟨_, dg, _, _, sa _ _ y1, T.cl_Hunk.cl, T.na_Hunk_after, lk_af, ?_⟩
          refine ⟨_, dg, _, _, sa _ _ y1, T.cl_Hunk.cl, T.na_Hunk_before, lk_be, ?_⟩
          refine ⟨by show 2 ≤ sizeLine; decide, fun t2 ht2 => ?_⟩
          have sb := sa.trans (Same.new (o := .tup [.ref m2, .ref m1]) ht2)
          refine ⟨_, dPair2 (upd_new upd_same ht2) upd_same (sb _ _ y2') (sb _ _ y3') (sb _ _ y3) (sb _ _ y2), fun H9 s9' => ?_⟩
          refine .fl (by simp) ?_
          have sc := sb.trans s9'
          refine ⟨_, dg, _, _, sc _ _ y1, T.cl_Hunk.cl, T.na_Hunk_after, lk_af, _, .inr (SqT.of (sc _ _ y3)), ?_⟩
          refine ⟨_, dg, _, _, sc _ _ y1, T.cl_Hunk.cl, T.na_Hunk_before, lk_be, _, .inr (SqT.of (sc _ _ y2)), ?_⟩
          refine ⟨some (.ref h1), some (.ref h2), ?_, s7.trans sc⟩
          have ew : grs hs (k + 1) = grs hs k + ((g.af.map V.str).length : Int) - ((g.be.map V.str).length : Int) := by rw [grs_succ eg, List.length_map, List.length_map]; unfold Hk.gr; omega
          rw [ew]
          rfl
        · rintro σ H7 ⟨v18, v19, rfl, s7⟩
          exact ⟨_, _, _, _, _, _, rfl, s5.trans s7⟩
    rintro σ H5 ⟨w15, w16, w17, w18, w19, w20, rfl, s5⟩
    replace T9 := T9.same s5; replace P9 := P9.same s5; replace P10 := P10.same s5; replace s9 := s9.trans (SameB.of s5)
    have hgo : Goes fs cs := goes_of ndc (fun c hc => ⟨((hcs c hc).1.ex (by decide)).1, ((hcs c hc).1.ex (by decide)).2, (hcs c hc).2⟩) (fun c hc ls e => by have := (fd _ (getF_mem e)).2.2; have : ls.length ≤ 10 ^ 4 := this; omega) fo (by omega)
    have hok := goes_ok hgo fo
    have hlp := len_appP (cs := cs) (fs := fs)
    have ep : (cs.map revC).map Ch.path = cs.map Ch.path := by rw [List.map_map]; exact List.map_congr_left fun c _ => revC_path c
    have ndr : ((cs.map revC).map Ch.path).Nodup := by rw [ep]; exact ndc
    have hgo2 : Goes (appP fs cs) (cs.map revC) := goes_of ndr (fun c hc => by
      obtain ⟨c0, hc0, rfl⟩ := List.mem_map.mp hc
      exact ⟨(hcd c0 hc0).1, (hcd c0 hc0).2.1, by rw [revC_path]; exact (hcs c0 hc0).2⟩) (fun c hc ls e => by
      obtain ⟨c0, hc0, rfl⟩ := List.mem_map.mp hc
      rw [revC_path] at e
      exact (hcd c0 hc0).2.2.2.2.2 ls e) hok (by rw [List.length_map]; omega)
    have hok2 := goes_ok hgo2 hok
    have hback : ∀ q, getF (appP (appP fs cs) (cs.map revC)) q = getF fs q := fun q => by
      by_cases hq : q ∈ cs.map Ch.path
      · obtain ⟨c, hc, rfl⟩ := List.mem_map.mp hq
        have := getF_appP_mem (fs := appP fs cs) ndr (List.mem_map_of_mem hc)
        rw [revC_path] at this
        rw [this]
        exact (hcd c hc).2.2.2.2.1
      · rw [getF_appP_not (by rw [ep]; exact hq), getF_appP_not hq]
    refine ⟨tr, pt, fs, ⟨"patch", cs⟩, rfl, T9, P9, hgo, fun t1 G11 s11 T11 => ?_⟩
    replace T9 := T9.same s11; replace P9 := P9.same s11; replace P10 := P10.same s11; replace s9 := s9.trans (SameB.of s11)
    refine ⟨t1, bk, appP fs cs, ⟨"patch", cs.map revC⟩, rfl, T11, P10, hgo2, fun t2 G12 s12 T12 => ?_⟩
    refine ⟨_, dTr T T12 (T9.same s12), fun G13 s13 => ?_⟩
    refine .fl (by rw [sameF_of hok2.1 fo.1 hback]; rfl) ?_
    replace s12 := s12.trans s13
    replace T9 := T9.same s12; replace P9 := P9.same s12; replace P10 := P10.same s12; replace s9 := s9.trans (SameB.of s12)
    refine ⟨bk, ⟨"patch", cs.map revC⟩, rfl, P10, nmPatch, fun c hc => ?_, ndr, by show PyProof.Rows.sortedS ((cs.map revC).map Ch.path) = true; rw [ep]; exact srt, by show (cs.map revC).length < 50; rw [List.length_map]; omega, fun b2 G14 s14 PB => ?_⟩
    · obtain ⟨c0, hc0, rfl⟩ := List.mem_map.mp hc
      exact ⟨(hcd c0 hc0).2.2.2.1, by rw [revC_path]; exact (hcs c0 hc0).2⟩
    have er : (cs.map revC).map revC = cs := by
      rw [List.map_map]
      conv => rhs; rw [← List.map_id cs]
      exact List.map_congr_left fun c _ => revC_rev c
    refine ⟨_, dPt8 T PB (P9.same s14), fun G15 s15 => ?_⟩
    refine .fl (by show (true != decide ((⟨"patch", (cs.map revC).map revC⟩ : Pt) = ⟨"patch", cs⟩)) = false; rw [er]; simp) ?_
    replace s9 := s9.trans (SameB.of (s14.trans s15))
    exact ⟨_, _, _, _, _, _, _, _, _, _, _, _, _, _, _, _, _, _, _, _, rfl, s1.trans fun b o hb => s9 b o (ne_of_none hb hs) hb⟩
end
end Toy

namespace Toy
open PySem L2
theorem all_mk {K : PySem.W.Frag} {h : Heap} {mg : Str → Option Value} {fa : Addr} (X : K.In h) (G : h.Ns mainGlobals mg) (hfa : mg "law" = some (.ref fa))
    {c_SourceError c_BadName c_BadPath c_NoFile c_BadHunk c_BadPatch c_Refused c_Tree c_Hunk c_Change c_Edit c_Create c_Remove c_Patch : Addr}
    {f_BadName_XinitX : Addr} {od_BadName_XinitX an_BadName_XinitX : Option Addr} {sl_BadName_XinitX : Array (Option Value)} {oc_BadName_XinitX kV_BadName_XinitX dc_BadName_XinitX pm_BadName_XinitX cd_BadName_XinitX ct_BadName_XinitX : Value}
    {f_BadHunk_XinitX : Addr} {od_BadHunk_XinitX an_BadHunk_XinitX : Option Addr} {sl_BadHunk_XinitX : Array (Option Value)} {oc_BadHunk_XinitX kV_BadHunk_XinitX dc_BadHunk_XinitX pm_BadHunk_XinitX cd_BadHunk_XinitX ct_BadHunk_XinitX : Value}
    {f_BadPatch_XinitX : Addr} {od_BadPatch_XinitX an_BadPatch_XinitX : Option Addr} {sl_BadPatch_XinitX : Array (Option Value)} {oc_BadPatch_XinitX kV_BadPatch_XinitX dc_BadPatch_XinitX pm_BadPatch_XinitX cd_BadPatch_XinitX ct_BadPatch_XinitX : Value}
    {f_is_word : Addr} {od_is_word an_is_word : Option Addr} {sl_is_word : Array (Option Value)} {oc_is_word kV_is_word dc_is_word pm_is_word cd_is_word ct_is_word : Value}
    {f_is_name : Addr} {od_is_name an_is_name : Option Addr} {sl_is_name : Array (Option Value)} {oc_is_name kV_is_name dc_is_name pm_is_name cd_is_name ct_is_name : Value}
    {f_is_path : Addr} {od_is_path an_is_path : Option Addr} {sl_is_path : Array (Option Value)} {oc_is_path kV_is_path dc_is_path pm_is_path cd_is_path ct_is_path : Value}
    {f_Tree_XinitX : Addr} {od_Tree_XinitX an_Tree_XinitX : Option Addr} {sl_Tree_XinitX : Array (Option Value)} {oc_Tree_XinitX kV_Tree_XinitX dc_Tree_XinitX pm_Tree_XinitX cd_Tree_XinitX ct_Tree_XinitX : Value}
    {f_Tree_files : Addr} {od_Tree_files an_Tree_files : Option Addr} {sl_Tree_files : Array (Option Value)} {oc_Tree_files kV_Tree_files dc_Tree_files pm_Tree_files cd_Tree_files ct_Tree_files : Value}
    {p_Tree_files : Addr} {rs_Tree_files : List Value}
    {f_Tree_file : Addr} {od_Tree_file an_Tree_file : Option Addr} {sl_Tree_file : Array (Option Value)} {oc_Tree_file kV_Tree_file dc_Tree_file pm_Tree_file cd_Tree_file ct_Tree_file : Value}
    {f_Tree_found : Addr} {od_Tree_found an_Tree_found : Option Addr} {sl_Tree_found : Array (Option Value)} {oc_Tree_found kV_Tree_found dc_Tree_found pm_Tree_found cd_Tree_found ct_Tree_found : Value}
    {f_Tree_put : Addr} {od_Tree_put an_Tree_put : Option Addr} {sl_Tree_put : Array (Option Value)} {oc_Tree_put kV_Tree_put dc_Tree_put pm_Tree_put cd_Tree_put ct_Tree_put : Value}
    {f_Tree_drop : Addr} {od_Tree_drop an_Tree_drop : Option Addr} {sl_Tree_drop : Array (Option Value)} {oc_Tree_drop kV_Tree_drop dc_Tree_drop pm_Tree_drop cd_Tree_drop ct_Tree_drop : Value}
    {f_Tree_XeqX : Addr} {od_Tree_XeqX an_Tree_XeqX : Option Addr} {sl_Tree_XeqX : Array (Option Value)} {oc_Tree_XeqX kV_Tree_XeqX dc_Tree_XeqX pm_Tree_XeqX cd_Tree_XeqX ct_Tree_XeqX : Value}
    {f_Hunk_XinitX : Addr} {od_Hunk_XinitX an_Hunk_XinitX : Option Addr} {sl_Hunk_XinitX : Array (Option Value)} {oc_Hunk_XinitX kV_Hunk_XinitX dc_Hunk_XinitX pm_Hunk_XinitX cd_Hunk_XinitX ct_Hunk_XinitX : Value}
    {f_Hunk_growth : Addr} {od_Hunk_growth an_Hunk_growth : Option Addr} {sl_Hunk_growth : Array (Option Value)} {oc_Hunk_growth kV_Hunk_growth dc_Hunk_growth pm_Hunk_growth cd_Hunk_growth ct_Hunk_growth : Value}
    {p_Hunk_growth : Addr} {rs_Hunk_growth : List Value}
    {f_Hunk_end : Addr} {od_Hunk_end an_Hunk_end : Option Addr} {sl_Hunk_end : Array (Option Value)} {oc_Hunk_end kV_Hunk_end dc_Hunk_end pm_Hunk_end cd_Hunk_end ct_Hunk_end : Value}
    {f_Hunk_XeqX : Addr} {od_Hunk_XeqX an_Hunk_XeqX : Option Addr} {sl_Hunk_XeqX : Array (Option Value)} {oc_Hunk_XeqX kV_Hunk_XeqX dc_Hunk_XeqX pm_Hunk_XeqX cd_Hunk_XeqX ct_Hunk_XeqX : Value}
    {f_Change_XinitX : Addr} {od_Change_XinitX an_Change_XinitX : Option Addr} {sl_Change_XinitX : Array (Option Value)} {oc_Change_XinitX kV_Change_XinitX dc_Change_XinitX pm_Change_XinitX cd_Change_XinitX ct_Change_XinitX : Value}
    {f_Change_content : Addr} {od_Change_content an_Change_content : Option Addr} {sl_Change_content : Array (Option Value)} {oc_Change_content kV_Change_content dc_Change_content pm_Change_content cd_Change_content ct_Change_content : Value}
    {f_Change_XeqX : Addr} {od_Change_XeqX an_Change_XeqX : Option Addr} {sl_Change_XeqX : Array (Option Value)} {oc_Change_XeqX kV_Change_XeqX dc_Change_XeqX pm_Change_XeqX cd_Change_XeqX ct_Change_XeqX : Value}
    {f_Edit_XinitX : Addr} {od_Edit_XinitX an_Edit_XinitX : Option Addr} {sl_Edit_XinitX : Array (Option Value)} {oc_Edit_XinitX kV_Edit_XinitX dc_Edit_XinitX pm_Edit_XinitX  ct_Edit_XinitX : Value}
    {cd_Edit_XinitX cx_Edit_XinitX : Addr} {cl2_Edit_XinitX ccl_Edit_XinitX : Value} {cld_Edit_XinitX cdd_Edit_XinitX : Option Addr} {csl_Edit_XinitX ccs_Edit_XinitX : Array (Option Value)} {vs_Edit_XinitX : Array Value} {tf_Edit_XinitX : Tok}
    {f_Edit_content : Addr} {od_Edit_content an_Edit_content : Option Addr} {sl_Edit_content : Array (Option Value)} {oc_Edit_content kV_Edit_content dc_Edit_content pm_Edit_content cd_Edit_content ct_Edit_content : Value}
    {f_Create_XinitX : Addr} {od_Create_XinitX an_Create_XinitX : Option Addr} {sl_Create_XinitX : Array (Option Value)} {oc_Create_XinitX kV_Create_XinitX dc_Create_XinitX pm_Create_XinitX  ct_Create_XinitX : Value}
    {cd_Create_XinitX cx_Create_XinitX : Addr} {cl2_Create_XinitX ccl_Create_XinitX : Value} {cld_Create_XinitX cdd_Create_XinitX : Option Addr} {csl_Create_XinitX ccs_Create_XinitX : Array (Option Value)} {vs_Create_XinitX : Array Value} {tf_Create_XinitX : Tok}
    {f_Create_content : Addr} {od_Create_content an_Create_content : Option Addr} {sl_Create_content : Array (Option Value)} {oc_Create_content kV_Create_content dc_Create_content pm_Create_content cd_Create_content ct_Create_content : Value}
    {f_Remove_XinitX : Addr} {od_Remove_XinitX an_Remove_XinitX : Option Addr} {sl_Remove_XinitX : Array (Option Value)} {oc_Remove_XinitX kV_Remove_XinitX dc_Remove_XinitX pm_Remove_XinitX  ct_Remove_XinitX : Value}
    {cd_Remove_XinitX cx_Remove_XinitX : Addr} {cl2_Remove_XinitX ccl_Remove_XinitX : Value} {cld_Remove_XinitX cdd_Remove_XinitX : Option Addr} {csl_Remove_XinitX ccs_Remove_XinitX : Array (Option Value)} {vs_Remove_XinitX : Array Value} {tf_Remove_XinitX : Tok}
    {f_Remove_content : Addr} {od_Remove_content an_Remove_content : Option Addr} {sl_Remove_content : Array (Option Value)} {oc_Remove_content kV_Remove_content dc_Remove_content pm_Remove_content cd_Remove_content ct_Remove_content : Value}
    {f_Patch_XinitX : Addr} {od_Patch_XinitX an_Patch_XinitX : Option Addr} {sl_Patch_XinitX : Array (Option Value)} {oc_Patch_XinitX kV_Patch_XinitX dc_Patch_XinitX pm_Patch_XinitX cd_Patch_XinitX ct_Patch_XinitX : Value}
    {f_Patch_of : Addr} {od_Patch_of an_Patch_of : Option Addr} {sl_Patch_of : Array (Option Value)} {oc_Patch_of kV_Patch_of dc_Patch_of pm_Patch_of cd_Patch_of ct_Patch_of : Value}
    {p_Patch_of : Addr} {rs_Patch_of : List Value}
    {f_Patch_XeqX : Addr} {od_Patch_XeqX an_Patch_XeqX : Option Addr} {sl_Patch_XeqX : Array (Option Value)} {oc_Patch_XeqX kV_Patch_XeqX dc_Patch_XeqX pm_Patch_XeqX cd_Patch_XeqX ct_Patch_XeqX : Value}
    {f_first_wrong : Addr} {od_first_wrong an_first_wrong : Option Addr} {sl_first_wrong : Array (Option Value)} {oc_first_wrong kV_first_wrong dc_first_wrong pm_first_wrong cd_first_wrong ct_first_wrong : Value}
    {f_edited : Addr} {od_edited an_edited : Option Addr} {sl_edited : Array (Option Value)} {oc_edited kV_edited dc_edited pm_edited cd_edited ct_edited : Value}
    {f_applied : Addr} {od_applied an_applied : Option Addr} {sl_applied : Array (Option Value)} {oc_applied kV_applied dc_applied pm_applied cd_applied ct_applied : Value}
    {f_apply_patch : Addr} {od_apply_patch an_apply_patch : Option Addr} {sl_apply_patch : Array (Option Value)} {oc_apply_patch kV_apply_patch dc_apply_patch pm_apply_patch cd_apply_patch ct_apply_patch : Value}
    {f_reversed_change : Addr} {od_reversed_change an_reversed_change : Option Addr} {sl_reversed_change : Array (Option Value)} {oc_reversed_change kV_reversed_change dc_reversed_change pm_reversed_change cd_reversed_change ct_reversed_change : Value}
    {f_reversed_patch : Addr} {od_reversed_patch an_reversed_patch : Option Addr} {sl_reversed_patch : Array (Option Value)} {oc_reversed_patch kV_reversed_patch dc_reversed_patch pm_reversed_patch cd_reversed_patch ct_reversed_patch : Value}
    {f_law_source : Addr} {od_law_source an_law_source : Option Addr} {sl_law_source : Array (Option Value)} {oc_law_source kV_law_source dc_law_source pm_law_source cd_law_source ct_law_source : Value}
    {f_law_draw : Addr} {od_law_draw an_law_draw : Option Addr} {sl_law_draw : Array (Option Value)} {oc_law_draw kV_law_draw dc_law_draw pm_law_draw cd_law_draw ct_law_draw : Value}
    {f_law_some_lines : Addr} {od_law_some_lines an_law_some_lines : Option Addr} {sl_law_some_lines : Array (Option Value)} {oc_law_some_lines kV_law_some_lines dc_law_some_lines pm_law_some_lines cd_law_some_lines ct_law_some_lines : Value}
    {f_law_drawn_tree : Addr} {od_law_drawn_tree an_law_drawn_tree : Option Addr} {sl_law_drawn_tree : Array (Option Value)} {oc_law_drawn_tree kV_law_drawn_tree dc_law_drawn_tree pm_law_drawn_tree cd_law_drawn_tree ct_law_drawn_tree : Value}
    {f_law_built : Addr} {od_law_built an_law_built : Option Addr} {sl_law_built : Array (Option Value)} {oc_law_built kV_law_built dc_law_built pm_law_built cd_law_built ct_law_built : Value}
    {f_law_exact_hunks : Addr} {od_law_exact_hunks an_law_exact_hunks : Option Addr} {sl_law_exact_hunks : Array (Option Value)} {oc_law_exact_hunks kV_law_exact_hunks dc_law_exact_hunks pm_law_exact_hunks cd_law_exact_hunks ct_law_exact_hunks : Value}
    {f_law_exact_patch : Addr} {od_law_exact_patch an_law_exact_patch : Option Addr} {sl_law_exact_patch : Array (Option Value)} {oc_law_exact_patch kV_law_exact_patch dc_law_exact_patch pm_law_exact_patch cd_law_exact_patch ct_law_exact_patch : Value}
    {f_law : Addr} {od_law an_law : Option Addr} {sl_law : Array (Option Value)} {oc_law kV_law dc_law pm_law cd_law ct_law : Value}
    {u_Change_KIND : Value}
    {u_Edit_KIND : Value}
    {u_Create_KIND : Value}
    {u_Remove_KIND : Value}
    {u_LETTERS : Value}
    {u_MOST_LETTERS : Value}
    {u_MOST_PARTS : Value}
    {u_MOST_PART : Value}
    (zall : PySem.W.nsIn K mainGlobals "all" = some none)
    (zenumerate : PySem.W.nsIn K mainGlobals "enumerate" = some none)
    (zisinstance : PySem.W.nsIn K mainGlobals "isinstance" = some none)
    (zlen : PySem.W.nsIn K mainGlobals "len" = some none)
    (zmax : PySem.W.nsIn K mainGlobals "max" = some none)
    (zmin : PySem.W.nsIn K mainGlobals "min" = some none)
    (zrange : PySem.W.nsIn K mainGlobals "range" = some none)
    (zsorted : PySem.W.nsIn K mainGlobals "sorted" = some none)
    (zstr : PySem.W.nsIn K mainGlobals "str" = some none)
    (ztuple : PySem.W.nsIn K mainGlobals "tuple" = some none)
    (zzip : PySem.W.nsIn K mainGlobals "zip" = some none)
    (hnx : PySem.W.specialIn K (.builtin "object.__class__") "__get__" = some (some (.builtin "getset_descriptor.__get__")))
    (tkx : PySem.W.takesIn K (.builtin "object.__class__") = some true)
    (mgx_Tree : PySem.W.nsIn K mainGlobals "Tree" = some (some (.ref c_Tree)))
    (pg_Tree : PySem.W.plainGet K c_Tree Str.empty = true)
    (hd_Tree : PySem.W.hasDictIn K c_Tree = true)
    (po_Tree : PySem.W.plainOver K c_Tree = true)
    (sa_Tree : PySem.W.findIn K (.ref c_Tree) "__setattr__" = some (some (.builtin "object.__setattr__")))
    (oc_Tree : PySem.W.findIn K (.ref c_Tree) "__class__" = some (some (.builtin "object.__class__")))
    (om_Tree : PySem.W.mroIn K c_Tree (.type "object") = some true)
    (ic_Tree : PySem.W.isClsIn K c_Tree = true)
    (tc_Tree : PySem.W.typeIn K (.ref c_Tree) = some (.type "type"))
    (mk1_Tree : PySem.W.makesIn K c_Tree = true)
    (kc_Tree : PySem.W.keepIn K (.ref c_Tree) = true)
    (na_Tree_by_path : PySem.W.findIn K (.ref c_Tree) "by_path" = some none)
    (na_Tree_sorted_paths : PySem.W.findIn K (.ref c_Tree) "sorted_paths" = some none)
    (mgx_Hunk : PySem.W.nsIn K mainGlobals "Hunk" = some (some (.ref c_Hunk)))
    (pg_Hunk : PySem.W.plainGet K c_Hunk Str.empty = true)
    (hd_Hunk : PySem.W.hasDictIn K c_Hunk = true)
    (po_Hunk : PySem.W.plainOver K c_Hunk = true)
    (sa_Hunk : PySem.W.findIn K (.ref c_Hunk) "__setattr__" = some (some (.builtin "object.__setattr__")))
    (oc_Hunk : PySem.W.findIn K (.ref c_Hunk) "__class__" = some (some (.builtin "object.__class__")))
    (om_Hunk : PySem.W.mroIn K c_Hunk (.type "object") = some true)
    (ic_Hunk : PySem.W.isClsIn K c_Hunk = true)
    (tc_Hunk : PySem.W.typeIn K (.ref c_Hunk) = some (.type "type"))
    (mk1_Hunk : PySem.W.makesIn K c_Hunk = true)
    (kc_Hunk : PySem.W.keepIn K (.ref c_Hunk) = true)
    (na_Hunk_at : PySem.W.findIn K (.ref c_Hunk) "at" = some none)
    (na_Hunk_before : PySem.W.findIn K (.ref c_Hunk) "before" = some none)
    (na_Hunk_after : PySem.W.findIn K (.ref c_Hunk) "after" = some none)
    (mgx_Change : PySem.W.nsIn K mainGlobals "Change" = some (some (.ref c_Change)))
    (pg_Change : PySem.W.plainGet K c_Change Str.empty = true)
    (hd_Change : PySem.W.hasDictIn K c_Change = true)
    (po_Change : PySem.W.plainOver K c_Change = true)
    (sa_Change : PySem.W.findIn K (.ref c_Change) "__setattr__" = some (some (.builtin "object.__setattr__")))
    (oc_Change : PySem.W.findIn K (.ref c_Change) "__class__" = some (some (.builtin "object.__class__")))
    (om_Change : PySem.W.mroIn K c_Change (.type "object") = some true)
    (ic_Change : PySem.W.isClsIn K c_Change = true)
    (tc_Change : PySem.W.typeIn K (.ref c_Change) = some (.type "type"))
    (mk1_Change : PySem.W.makesIn K c_Change = true)
    (kc_Change : PySem.W.keepIn K (.ref c_Change) = true)
    (na_Change_path : PySem.W.findIn K (.ref c_Change) "path" = some none)
    (mgx_Edit : PySem.W.nsIn K mainGlobals "Edit" = some (some (.ref c_Edit)))
    (pg_Edit : PySem.W.plainGet K c_Edit Str.empty = true)
    (hd_Edit : PySem.W.hasDictIn K c_Edit = true)
    (po_Edit : PySem.W.plainOver K c_Edit = true)
    (sa_Edit : PySem.W.findIn K (.ref c_Edit) "__setattr__" = some (some (.builtin "object.__setattr__")))
    (oc_Edit : PySem.W.findIn K (.ref c_Edit) "__class__" = some (some (.builtin "object.__class__")))
    (om_Edit : PySem.W.mroIn K c_Edit (.type "object") = some true)
    (ic_Edit : PySem.W.isClsIn K c_Edit = true)
    (tc_Edit : PySem.W.typeIn K (.ref c_Edit) = some (.type "type"))
    (mk1_Edit : PySem.W.makesIn K c_Edit = true)
    (kc_Edit : PySem.W.keepIn K (.ref c_Edit) = true)
    (na_Edit_path : PySem.W.findIn K (.ref c_Edit) "path" = some none)
    (na_Edit_hunks : PySem.W.findIn K (.ref c_Edit) "hunks" = some none)
    (mgx_Create : PySem.W.nsIn K mainGlobals "Create" = some (some (.ref c_Create)))
    (pg_Create : PySem.W.plainGet K c_Create Str.empty = true)
    (hd_Create : PySem.W.hasDictIn K c_Create = true)
    (po_Create : PySem.W.plainOver K c_Create = true)
    (sa_Create : PySem.W.findIn K (.ref c_Create) "__setattr__" = some (some (.builtin "object.__setattr__")))
    (oc_Create : PySem.W.findIn K (.ref c_Create) "__class__" = some (some (.builtin "object.__class__")))
    (om_Create : PySem.W.mroIn K c_Create (.type "object") = some true)
    (ic_Create : PySem.W.isClsIn K c_Create = true)
    (tc_Create : PySem.W.typeIn K (.ref c_Create) = some (.type "type"))
    (mk1_Create : PySem.W.makesIn K c_Create = true)
    (kc_Create : PySem.W.keepIn K (.ref c_Create) = true)
    (na_Create_path : PySem.W.findIn K (.ref c_Create) "path" = some none)
    (na_Create_lines : PySem.W.findIn K (.ref c_Create) "lines" = some none)
    (mgx_Remove : PySem.W.nsIn K mainGlobals "Remove" = some (some (.ref c_Remove)))
    (pg_Remove : PySem.W.plainGet K c_Remove Str.empty = true)
    (hd_Remove : PySem.W.hasDictIn K c_Remove = true)
    (po_Remove : PySem.W.plainOver K c_Remove = true)
    (sa_Remove : PySem.W.findIn K (.ref c_Remove) "__setattr__" = some (some (.builtin "object.__setattr__")))
    (oc_Remove : PySem.W.findIn K (.ref c_Remove) "__class__" = some (some (.builtin "object.__class__")))
    (om_Remove : PySem.W.mroIn K c_Remove (.type "object") = some true)
    (ic_Remove : PySem.W.isClsIn K c_Remove = true)
    (tc_Remove : PySem.W.typeIn K (.ref c_Remove) = some (.type "type"))
    (mk1_Remove : PySem.W.makesIn K c_Remove = true)
    (kc_Remove : PySem.W.keepIn K (.ref c_Remove) = true)
    (na_Remove_path : PySem.W.findIn K (.ref c_Remove) "path" = some none)
    (na_Remove_lines : PySem.W.findIn K (.ref c_Remove) "lines" = some none)
    (mgx_Patch : PySem.W.nsIn K mainGlobals "Patch" = some (some (.ref c_Patch)))
    (pg_Patch : PySem.W.plainGet K c_Patch Str.empty = true)
    (hd_Patch : PySem.W.hasDictIn K c_Patch = true)
    (po_Patch : PySem.W.plainOver K c_Patch = true)
    (sa_Patch : PySem.W.findIn K (.ref c_Patch) "__setattr__" = some (some (.builtin "object.__setattr__")))
    (oc_Patch : PySem.W.findIn K (.ref c_Patch) "__class__" = some (some (.builtin "object.__class__")))
    (om_Patch : PySem.W.mroIn K c_Patch (.type "object") = some true)
    (ic_Patch : PySem.W.isClsIn K c_Patch = true)
    (tc_Patch : PySem.W.typeIn K (.ref c_Patch) = some (.type "type"))
    (mk1_Patch : PySem.W.makesIn K c_Patch = true)
    (kc_Patch : PySem.W.keepIn K (.ref c_Patch) = true)
    (rd_Patch : PySem.W.readsIn K c_Patch (.type "type") = true)
    (rg_Patch : PySem.W.specialIn K (.ref c_Patch) "__getattribute__" = some (some (.builtin "type.__getattribute__")))
    (na_Patch_name : PySem.W.findIn K (.ref c_Patch) "name" = some none)
    (na_Patch_by_path : PySem.W.findIn K (.ref c_Patch) "by_path" = some none)
    (na_Patch_changes : PySem.W.findIn K (.ref c_Patch) "changes" = some none)
    (mgx_BadPath : PySem.W.nsIn K mainGlobals "BadPath" = some (some (.ref c_BadPath)))
    (mgx_NoFile : PySem.W.nsIn K mainGlobals "NoFile" = some (some (.ref c_NoFile)))
    (mgx_Refused : PySem.W.nsIn K mainGlobals "Refused" = some (some (.ref c_Refused)))
    (mgx_SourceError : PySem.W.nsIn K mainGlobals "SourceError" = some (some (.ref c_SourceError)))
    (rd_SourceError : PySem.W.readsIn K c_SourceError (.type "type") = true)
    (rg_SourceError : PySem.W.specialIn K (.ref c_SourceError) "__getattribute__" = some (some (.builtin "type.__getattribute__")))
    (ri_SourceError : PySem.W.findCls K (.ref c_SourceError) (.type "type") "__init__" = some (.val (.builtin "ValueError.__init__")))
    (mgx_BadName : PySem.W.nsIn K mainGlobals "BadName" = some (some (.ref c_BadName)))
    (ox_BadName : OxC K c_BadName)
    (na_BadName_name : PySem.W.findIn K (.ref c_BadName) "name" = some none)
    (mgx_BadHunk : PySem.W.nsIn K mainGlobals "BadHunk" = some (some (.ref c_BadHunk)))
    (ox_BadHunk : OxC K c_BadHunk)
    (na_BadHunk_index : PySem.W.findIn K (.ref c_BadHunk) "index" = some none)
    (mgx_BadPatch : PySem.W.nsIn K mainGlobals "BadPatch" = some (some (.ref c_BadPatch)))
    (ox_BadPatch : OxC K c_BadPatch)
    (na_BadPatch_path : PySem.W.findIn K (.ref c_BadPatch) "path" = some none)
    (a_BadName_XinitX : PySem.W.findIn K (.ref c_BadName) "__init__" = some (some (.ref f_BadName_XinitX)))
    (l_BadName_XinitX : K.lookup f_BadName_XinitX = some ⟨oc_BadName_XinitX, od_BadName_XinitX, .func (PySem.W.fnOf "__init__" "BadName.__init__" (defArgs s_BadName_XinitX) (defBody s_BadName_XinitX) (defScope s_BadName_XinitX) .none kV_BadName_XinitX dc_BadName_XinitX pm_BadName_XinitX an_BadName_XinitX cd_BadName_XinitX ct_BadName_XinitX), sl_BadName_XinitX⟩)
    (c_BadName_XinitX : PySem.W.codeIn K cd_BadName_XinitX "BadName.__init__" = true)
    (k_BadName_XinitX : PySem.W.keepIn K (.ref f_BadName_XinitX) = true)
    (fn_BadName_XinitX : PySem.W.isFn K (.ref f_BadName_XinitX) = true)
    (fi_BadName_XinitX : PySem.W.fnIn K f_BadName_XinitX = true)
    (a_BadHunk_XinitX : PySem.W.findIn K (.ref c_BadHunk) "__init__" = some (some (.ref f_BadHunk_XinitX)))
    (l_BadHunk_XinitX : K.lookup f_BadHunk_XinitX = some ⟨oc_BadHunk_XinitX, od_BadHunk_XinitX, .func (PySem.W.fnOf "__init__" "BadHunk.__init__" (defArgs s_BadHunk_XinitX) (defBody s_BadHunk_XinitX) (defScope s_BadHunk_XinitX) .none kV_BadHunk_XinitX dc_BadHunk_XinitX pm_BadHunk_XinitX an_BadHunk_XinitX cd_BadHunk_XinitX ct_BadHunk_XinitX), sl_BadHunk_XinitX⟩)
    (c_BadHunk_XinitX : PySem.W.codeIn K cd_BadHunk_XinitX "BadHunk.__init__" = true)
    (k_BadHunk_XinitX : PySem.W.keepIn K (.ref f_BadHunk_XinitX) = true)
    (fn_BadHunk_XinitX : PySem.W.isFn K (.ref f_BadHunk_XinitX) = true)
    (fi_BadHunk_XinitX : PySem.W.fnIn K f_BadHunk_XinitX = true)
    (a_BadPatch_XinitX : PySem.W.findIn K (.ref c_BadPatch) "__init__" = some (some (.ref f_BadPatch_XinitX)))
    (l_BadPatch_XinitX : K.lookup f_BadPatch_XinitX = some ⟨oc_BadPatch_XinitX, od_BadPatch_XinitX, .func (PySem.W.fnOf "__init__" "BadPatch.__init__" (defArgs s_BadPatch_XinitX) (defBody s_BadPatch_XinitX) (defScope s_BadPatch_XinitX) .none kV_BadPatch_XinitX dc_BadPatch_XinitX pm_BadPatch_XinitX an_BadPatch_XinitX cd_BadPatch_XinitX ct_BadPatch_XinitX), sl_BadPatch_XinitX⟩)
    (c_BadPatch_XinitX : PySem.W.codeIn K cd_BadPatch_XinitX "BadPatch.__init__" = true)
    (k_BadPatch_XinitX : PySem.W.keepIn K (.ref f_BadPatch_XinitX) = true)
    (fn_BadPatch_XinitX : PySem.W.isFn K (.ref f_BadPatch_XinitX) = true)
    (fi_BadPatch_XinitX : PySem.W.fnIn K f_BadPatch_XinitX = true)
    (a_is_word : PySem.W.nsIn K mainGlobals "is_word" = some (some (.ref f_is_word)))
    (l_is_word : K.lookup f_is_word = some ⟨oc_is_word, od_is_word, .func (PySem.W.fnOf "is_word" "is_word" (defArgs s_is_word) (defBody s_is_word) (defScope s_is_word) .none kV_is_word dc_is_word pm_is_word an_is_word cd_is_word ct_is_word), sl_is_word⟩)
    (c_is_word : PySem.W.codeIn K cd_is_word "is_word" = true)
    (k_is_word : PySem.W.keepIn K (.ref f_is_word) = true)
    (a_is_name : PySem.W.nsIn K mainGlobals "is_name" = some (some (.ref f_is_name)))
    (l_is_name : K.lookup f_is_name = some ⟨oc_is_name, od_is_name, .func (PySem.W.fnOf "is_name" "is_name" (defArgs s_is_name) (defBody s_is_name) (defScope s_is_name) .none kV_is_name dc_is_name pm_is_name an_is_name cd_is_name ct_is_name), sl_is_name⟩)
    (c_is_name : PySem.W.codeIn K cd_is_name "is_name" = true)
    (k_is_name : PySem.W.keepIn K (.ref f_is_name) = true)
    (a_is_path : PySem.W.nsIn K mainGlobals "is_path" = some (some (.ref f_is_path)))
    (l_is_path : K.lookup f_is_path = some ⟨oc_is_path, od_is_path, .func (PySem.W.fnOf "is_path" "is_path" (defArgs s_is_path) (defBody s_is_path) (defScope s_is_path) .none kV_is_path dc_is_path pm_is_path an_is_path cd_is_path ct_is_path), sl_is_path⟩)
    (c_is_path : PySem.W.codeIn K cd_is_path "is_path" = true)
    (k_is_path : PySem.W.keepIn K (.ref f_is_path) = true)
    (a_Tree_XinitX : PySem.W.findIn K (.ref c_Tree) "__init__" = some (some (.ref f_Tree_XinitX)))
    (l_Tree_XinitX : K.lookup f_Tree_XinitX = some ⟨oc_Tree_XinitX, od_Tree_XinitX, .func (PySem.W.fnOf "__init__" "Tree.__init__" (defArgs s_Tree_XinitX) (defBody s_Tree_XinitX) (defScope s_Tree_XinitX) .none kV_Tree_XinitX dc_Tree_XinitX pm_Tree_XinitX an_Tree_XinitX cd_Tree_XinitX ct_Tree_XinitX), sl_Tree_XinitX⟩)
    (c_Tree_XinitX : PySem.W.codeIn K cd_Tree_XinitX "Tree.__init__" = true)
    (k_Tree_XinitX : PySem.W.keepIn K (.ref f_Tree_XinitX) = true)
    (fn_Tree_XinitX : PySem.W.isFn K (.ref f_Tree_XinitX) = true)
    (fi_Tree_XinitX : PySem.W.fnIn K f_Tree_XinitX = true)
    (a_Tree_files : PySem.W.findIn K (.ref c_Tree) "files" = some (some (.ref p_Tree_files)))
    (pg1_Tree_files : PySem.W.specialIn K (.ref p_Tree_files) "__get__" = some (some (.builtin "property.__get__")))
    (pg2_Tree_files : PySem.W.takesIn K (.ref p_Tree_files) = some true)
    (pg3_Tree_files : PySem.W.recIn K p_Tree_files "property" = some (.ref f_Tree_files :: rs_Tree_files))
    (l_Tree_files : K.lookup f_Tree_files = some ⟨oc_Tree_files, od_Tree_files, .func (PySem.W.fnOf "files" "Tree.files" (defArgs s_Tree_files) (defBody s_Tree_files) (defScope s_Tree_files) .none kV_Tree_files dc_Tree_files pm_Tree_files an_Tree_files cd_Tree_files ct_Tree_files), sl_Tree_files⟩)
    (c_Tree_files : PySem.W.codeIn K cd_Tree_files "Tree.files" = true)
    (k_Tree_files : PySem.W.keepIn K (.ref f_Tree_files) = true)
    (fn_Tree_files : PySem.W.isFn K (.ref f_Tree_files) = true)
    (fi_Tree_files : PySem.W.fnIn K f_Tree_files = true)
    (a_Tree_file : PySem.W.findIn K (.ref c_Tree) "file" = some (some (.ref f_Tree_file)))
    (l_Tree_file : K.lookup f_Tree_file = some ⟨oc_Tree_file, od_Tree_file, .func (PySem.W.fnOf "file" "Tree.file" (defArgs s_Tree_file) (defBody s_Tree_file) (defScope s_Tree_file) .none kV_Tree_file dc_Tree_file pm_Tree_file an_Tree_file cd_Tree_file ct_Tree_file), sl_Tree_file⟩)
    (c_Tree_file : PySem.W.codeIn K cd_Tree_file "Tree.file" = true)
    (k_Tree_file : PySem.W.keepIn K (.ref f_Tree_file) = true)
    (fn_Tree_file : PySem.W.isFn K (.ref f_Tree_file) = true)
    (fi_Tree_file : PySem.W.fnIn K f_Tree_file = true)
    (a_Tree_found : PySem.W.findIn K (.ref c_Tree) "found" = some (some (.ref f_Tree_found)))
    (l_Tree_found : K.lookup f_Tree_found = some ⟨oc_Tree_found, od_Tree_found, .func (PySem.W.fnOf "found" "Tree.found" (defArgs s_Tree_found) (defBody s_Tree_found) (defScope s_Tree_found) .none kV_Tree_found dc_Tree_found pm_Tree_found an_Tree_found cd_Tree_found ct_Tree_found), sl_Tree_found⟩)
    (c_Tree_found : PySem.W.codeIn K cd_Tree_found "Tree.found" = true)
    (k_Tree_found : PySem.W.keepIn K (.ref f_Tree_found) = true)
    (fn_Tree_found : PySem.W.isFn K (.ref f_Tree_found) = true)
    (fi_Tree_found : PySem.W.fnIn K f_Tree_found = true)
    (a_Tree_put : PySem.W.findIn K (.ref c_Tree) "put" = some (some (.ref f_Tree_put)))
    (l_Tree_put : K.lookup f_Tree_put = some ⟨oc_Tree_put, od_Tree_put, .func (PySem.W.fnOf "put" "Tree.put" (defArgs s_Tree_put) (defBody s_Tree_put) (defScope s_Tree_put) .none kV_Tree_put dc_Tree_put pm_Tree_put an_Tree_put cd_Tree_put ct_Tree_put), sl_Tree_put⟩)
    (c_Tree_put : PySem.W.codeIn K cd_Tree_put "Tree.put" = true)
    (k_Tree_put : PySem.W.keepIn K (.ref f_Tree_put) = true)
    (fn_Tree_put : PySem.W.isFn K (.ref f_Tree_put) = true)
    (fi_Tree_put : PySem.W.fnIn K f_Tree_put = true)
    (a_Tree_drop : PySem.W.findIn K (.ref c_Tree) "drop" = some (some (.ref f_Tree_drop)))
    (l_Tree_drop : K.lookup f_Tree_drop = some ⟨oc_Tree_drop, od_Tree_drop, .func (PySem.W.fnOf "drop" "Tree.drop" (defArgs s_Tree_drop) (defBody s_Tree_drop) (defScope s_Tree_drop) .none kV_Tree_drop dc_Tree_drop pm_Tree_drop an_Tree_drop cd_Tree_drop ct_Tree_drop), sl_Tree_drop⟩)
    (c_Tree_drop : PySem.W.codeIn K cd_Tree_drop "Tree.drop" = true)
    (k_Tree_drop : PySem.W.keepIn K (.ref f_Tree_drop) = true)
    (fn_Tree_drop : PySem.W.isFn K (.ref f_Tree_drop) = true)
    (fi_Tree_drop : PySem.W.fnIn K f_Tree_drop = true)
    (a_Tree_XeqX : PySem.W.findIn K (.ref c_Tree) "__eq__" = some (some (.ref f_Tree_XeqX)))
    (l_Tree_XeqX : K.lookup f_Tree_XeqX = some ⟨oc_Tree_XeqX, od_Tree_XeqX, .func (PySem.W.fnOf "__eq__" "Tree.__eq__" (defArgs s_Tree_XeqX) (defBody s_Tree_XeqX) (defScope s_Tree_XeqX) .none kV_Tree_XeqX dc_Tree_XeqX pm_Tree_XeqX an_Tree_XeqX cd_Tree_XeqX ct_Tree_XeqX), sl_Tree_XeqX⟩)
    (c_Tree_XeqX : PySem.W.codeIn K cd_Tree_XeqX "Tree.__eq__" = true)
    (k_Tree_XeqX : PySem.W.keepIn K (.ref f_Tree_XeqX) = true)
    (fn_Tree_XeqX : PySem.W.isFn K (.ref f_Tree_XeqX) = true)
    (fi_Tree_XeqX : PySem.W.fnIn K f_Tree_XeqX = true)
    (a_Hunk_XinitX : PySem.W.findIn K (.ref c_Hunk) "__init__" = some (some (.ref f_Hunk_XinitX)))
    (l_Hunk_XinitX : K.lookup f_Hunk_XinitX = some ⟨oc_Hunk_XinitX, od_Hunk_XinitX, .func (PySem.W.fnOf "__init__" "Hunk.__init__" (defArgs s_Hunk_XinitX) (defBody s_Hunk_XinitX) (defScope s_Hunk_XinitX) .none kV_Hunk_XinitX dc_Hunk_XinitX pm_Hunk_XinitX an_Hunk_XinitX cd_Hunk_XinitX ct_Hunk_XinitX), sl_Hunk_XinitX⟩)
    (c_Hunk_XinitX : PySem.W.codeIn K cd_Hunk_XinitX "Hunk.__init__" = true)
    (k_Hunk_XinitX : PySem.W.keepIn K (.ref f_Hunk_XinitX) = true)
    (fn_Hunk_XinitX : PySem.W.isFn K (.ref f_Hunk_XinitX) = true)
    (fi_Hunk_XinitX : PySem.W.fnIn K f_Hunk_XinitX = true)
    (a_Hunk_growth : PySem.W.findIn K (.ref c_Hunk) "growth" = some (some (.ref p_Hunk_growth)))
    (pg1_Hunk_growth : PySem.W.specialIn K (.ref p_Hunk_growth) "__get__" = some (some (.builtin "property.__get__")))
    (pg2_Hunk_growth : PySem.W.takesIn K (.ref p_Hunk_growth) = some true)
    (pg3_Hunk_growth : PySem.W.recIn K p_Hunk_growth "property" = some (.ref f_Hunk_growth :: rs_Hunk_growth))
    (l_Hunk_growth : K.lookup f_Hunk_growth = some ⟨oc_Hunk_growth, od_Hunk_growth, .func (PySem.W.fnOf "growth" "Hunk.growth" (defArgs s_Hunk_growth) (defBody s_Hunk_growth) (defScope s_Hunk_growth) .none kV_Hunk_growth dc_Hunk_growth pm_Hunk_growth an_Hunk_growth cd_Hunk_growth ct_Hunk_growth), sl_Hunk_growth⟩)
    (c_Hunk_growth : PySem.W.codeIn K cd_Hunk_growth "Hunk.growth" = true)
    (k_Hunk_growth : PySem.W.keepIn K (.ref f_Hunk_growth) = true)
    (fn_Hunk_growth : PySem.W.isFn K (.ref f_Hunk_growth) = true)
    (fi_Hunk_growth : PySem.W.fnIn K f_Hunk_growth = true)
    (a_Hunk_end : PySem.W.findIn K (.ref c_Hunk) "end" = some (some (.ref f_Hunk_end)))
    (l_Hunk_end : K.lookup f_Hunk_end = some ⟨oc_Hunk_end, od_Hunk_end, .func (PySem.W.fnOf "end" "Hunk.end" (defArgs s_Hunk_end) (defBody s_Hunk_end) (defScope s_Hunk_end) .none kV_Hunk_end dc_Hunk_end pm_Hunk_end an_Hunk_end cd_Hunk_end ct_Hunk_end), sl_Hunk_end⟩)
    (c_Hunk_end : PySem.W.codeIn K cd_Hunk_end "Hunk.end" = true)
    (k_Hunk_end : PySem.W.keepIn K (.ref f_Hunk_end) = true)
    (fn_Hunk_end : PySem.W.isFn K (.ref f_Hunk_end) = true)
    (fi_Hunk_end : PySem.W.fnIn K f_Hunk_end = true)
    (a_Hunk_XeqX : PySem.W.findIn K (.ref c_Hunk) "__eq__" = some (some (.ref f_Hunk_XeqX)))
    (l_Hunk_XeqX : K.lookup f_Hunk_XeqX = some ⟨oc_Hunk_XeqX, od_Hunk_XeqX, .func (PySem.W.fnOf "__eq__" "Hunk.__eq__" (defArgs s_Hunk_XeqX) (defBody s_Hunk_XeqX) (defScope s_Hunk_XeqX) .none kV_Hunk_XeqX dc_Hunk_XeqX pm_Hunk_XeqX an_Hunk_XeqX cd_Hunk_XeqX ct_Hunk_XeqX), sl_Hunk_XeqX⟩)
    (c_Hunk_XeqX : PySem.W.codeIn K cd_Hunk_XeqX "Hunk.__eq__" = true)
    (k_Hunk_XeqX : PySem.W.keepIn K (.ref f_Hunk_XeqX) = true)
    (fn_Hunk_XeqX : PySem.W.isFn K (.ref f_Hunk_XeqX) = true)
    (fi_Hunk_XeqX : PySem.W.fnIn K f_Hunk_XeqX = true)
    (a_Change_XinitX : PySem.W.findIn K (.ref c_Change) "__init__" = some (some (.ref f_Change_XinitX)))
    (l_Change_XinitX : K.lookup f_Change_XinitX = some ⟨oc_Change_XinitX, od_Change_XinitX, .func (PySem.W.fnOf "__init__" "Change.__init__" (defArgs s_Change_XinitX) (defBody s_Change_XinitX) (defScope s_Change_XinitX) .none kV_Change_XinitX dc_Change_XinitX pm_Change_XinitX an_Change_XinitX cd_Change_XinitX ct_Change_XinitX), sl_Change_XinitX⟩)
    (c_Change_XinitX : PySem.W.codeIn K cd_Change_XinitX "Change.__init__" = true)
    (k_Change_XinitX : PySem.W.keepIn K (.ref f_Change_XinitX) = true)
    (fn_Change_XinitX : PySem.W.isFn K (.ref f_Change_XinitX) = true)
    (fi_Change_XinitX : PySem.W.fnIn K f_Change_XinitX = true)
    (a_Change_content : PySem.W.findIn K (.ref c_Change) "content" = some (some (.ref f_Change_content)))
    (l_Change_content : K.lookup f_Change_content = some ⟨oc_Change_content, od_Change_content, .func (PySem.W.fnOf "content" "Change.content" (defArgs s_Change_content) (defBody s_Change_content) (defScope s_Change_content) .none kV_Change_content dc_Change_content pm_Change_content an_Change_content cd_Change_content ct_Change_content), sl_Change_content⟩)
    (c_Change_content : PySem.W.codeIn K cd_Change_content "Change.content" = true)
    (k_Change_content : PySem.W.keepIn K (.ref f_Change_content) = true)
    (fn_Change_content : PySem.W.isFn K (.ref f_Change_content) = true)
    (fi_Change_content : PySem.W.fnIn K f_Change_content = true)
    (a_Change_XeqX : PySem.W.findIn K (.ref c_Change) "__eq__" = some (some (.ref f_Change_XeqX)))
    (l_Change_XeqX : K.lookup f_Change_XeqX = some ⟨oc_Change_XeqX, od_Change_XeqX, .func (PySem.W.fnOf "__eq__" "Change.__eq__" (defArgs s_Change_XeqX) (defBody s_Change_XeqX) (defScope s_Change_XeqX) .none kV_Change_XeqX dc_Change_XeqX pm_Change_XeqX an_Change_XeqX cd_Change_XeqX ct_Change_XeqX), sl_Change_XeqX⟩)
    (c_Change_XeqX : PySem.W.codeIn K cd_Change_XeqX "Change.__eq__" = true)
    (k_Change_XeqX : PySem.W.keepIn K (.ref f_Change_XeqX) = true)
    (fn_Change_XeqX : PySem.W.isFn K (.ref f_Change_XeqX) = true)
    (fi_Change_XeqX : PySem.W.fnIn K f_Change_XeqX = true)
    (a_Edit_XinitX : PySem.W.findIn K (.ref c_Edit) "__init__" = some (some (.ref f_Edit_XinitX)))
    (l_Edit_XinitX : K.lookup f_Edit_XinitX = some ⟨oc_Edit_XinitX, od_Edit_XinitX, .func (PySem.W.ksFn "__init__" "Edit.__init__" (defArgs s_Edit_XinitX) (defBody s_Edit_XinitX) (defScope s_Edit_XinitX) .none kV_Edit_XinitX dc_Edit_XinitX pm_Edit_XinitX an_Edit_XinitX (.ref cd_Edit_XinitX) ct_Edit_XinitX cx_Edit_XinitX), sl_Edit_XinitX⟩)
    (c_Edit_XinitX : PySem.W.codeIn K (.ref cd_Edit_XinitX) "Edit.__init__" = true)
    (ce_Edit_XinitX : K.lookup cx_Edit_XinitX = some ⟨cl2_Edit_XinitX, cld_Edit_XinitX, .cell (some (.ref c_Edit)), csl_Edit_XinitX⟩)
    (co_Edit_XinitX : K.lookup cd_Edit_XinitX = some ⟨ccl_Edit_XinitX, cdd_Edit_XinitX, .fields vs_Edit_XinitX, ccs_Edit_XinitX⟩)
    (vf_Edit_XinitX : vs_Edit_XinitX[2]? = some (.str PySem.Challenge.pw_sourcequeue_k08_reversed_patches.main.file tf_Edit_XinitX))
    (k_Edit_XinitX : PySem.W.keepIn K (.ref f_Edit_XinitX) = true)
    (fn_Edit_XinitX : PySem.W.isFn K (.ref f_Edit_XinitX) = true)
    (fi_Edit_XinitX : PySem.W.fnIn K f_Edit_XinitX = true)
    (a_Edit_content : PySem.W.findIn K (.ref c_Edit) "content" = some (some (.ref f_Edit_content)))
    (l_Edit_content : K.lookup f_Edit_content = some ⟨oc_Edit_content, od_Edit_content, .func (PySem.W.fnOf "content" "Edit.content" (defArgs s_Edit_content) (defBody s_Edit_content) (defScope s_Edit_content) .none kV_Edit_content dc_Edit_content pm_Edit_content an_Edit_content cd_Edit_content ct_Edit_content), sl_Edit_content⟩)
    (c_Edit_content : PySem.W.codeIn K cd_Edit_content "Edit.content" = true)
    (k_Edit_content : PySem.W.keepIn K (.ref f_Edit_content) = true)
    (fn_Edit_content : PySem.W.isFn K (.ref f_Edit_content) = true)
    (fi_Edit_content : PySem.W.fnIn K f_Edit_content = true)
    (a_Create_XinitX : PySem.W.findIn K (.ref c_Create) "__init__" = some (some (.ref f_Create_XinitX)))
    (l_Create_XinitX : K.lookup f_Create_XinitX = some ⟨oc_Create_XinitX, od_Create_XinitX, .func (PySem.W.ksFn "__init__" "Create.__init__" (defArgs s_Create_XinitX) (defBody s_Create_XinitX) (defScope s_Create_XinitX) .none kV_Create_XinitX dc_Create_XinitX pm_Create_XinitX an_Create_XinitX (.ref cd_Create_XinitX) ct_Create_XinitX cx_Create_XinitX), sl_Create_XinitX⟩)
    (c_Create_XinitX : PySem.W.codeIn K (.ref cd_Create_XinitX) "Create.__init__" = true)
    (ce_Create_XinitX : K.lookup cx_Create_XinitX = some ⟨cl2_Create_XinitX, cld_Create_XinitX, .cell (some (.ref c_Create)), csl_Create_XinitX⟩)
    (co_Create_XinitX : K.lookup cd_Create_XinitX = some ⟨ccl_Create_XinitX, cdd_Create_XinitX, .fields vs_Create_XinitX, ccs_Create_XinitX⟩)
    (vf_Create_XinitX : vs_Create_XinitX[2]? = some (.str PySem.Challenge.pw_sourcequeue_k08_reversed_patches.main.file tf_Create_XinitX))
    (k_Create_XinitX : PySem.W.keepIn K (.ref f_Create_XinitX) = true)
    (fn_Create_XinitX : PySem.W.isFn K (.ref f_Create_XinitX) = true)
    (fi_Create_XinitX : PySem.W.fnIn K f_Create_XinitX = true)
    (a_Create_content : PySem.W.findIn K (.ref c_Create) "content" = some (some (.ref f_Create_content)))
    (l_Create_content : K.lookup f_Create_content = some ⟨oc_Create_content, od_Create_content, .func (PySem.W.fnOf "content" "Create.content" (defArgs s_Create_content) (defBody s_Create_content) (defScope s_Create_content) .none kV_Create_content dc_Create_content pm_Create_content an_Create_content cd_Create_content ct_Create_content), sl_Create_content⟩)
    (c_Create_content : PySem.W.codeIn K cd_Create_content "Create.content" = true)
    (k_Create_content : PySem.W.keepIn K (.ref f_Create_content) = true)
    (fn_Create_content : PySem.W.isFn K (.ref f_Create_content) = true)
    (fi_Create_content : PySem.W.fnIn K f_Create_content = true)
    (a_Remove_XinitX : PySem.W.findIn K (.ref c_Remove) "__init__" = some (some (.ref f_Remove_XinitX)))
    (l_Remove_XinitX : K.lookup f_Remove_XinitX = some ⟨oc_Remove_XinitX, od_Remove_XinitX, .func (PySem.W.ksFn "__init__" "Remove.__init__" (defArgs s_Remove_XinitX) (defBody s_Remove_XinitX) (defScope s_Remove_XinitX) .none kV_Remove_XinitX dc_Remove_XinitX pm_Remove_XinitX an_Remove_XinitX (.ref cd_Remove_XinitX) ct_Remove_XinitX cx_Remove_XinitX), sl_Remove_XinitX⟩)
    (c_Remove_XinitX : PySem.W.codeIn K (.ref cd_Remove_XinitX) "Remove.__init__" = true)
    (ce_Remove_XinitX : K.lookup cx_Remove_XinitX = some ⟨cl2_Remove_XinitX, cld_Remove_XinitX, .cell (some (.ref c_Remove)), csl_Remove_XinitX⟩)
    (co_Remove_XinitX : K.lookup cd_Remove_XinitX = some ⟨ccl_Remove_XinitX, cdd_Remove_XinitX, .fields vs_Remove_XinitX, ccs_Remove_XinitX⟩)
    (vf_Remove_XinitX : vs_Remove_XinitX[2]? = some (.str PySem.Challenge.pw_sourcequeue_k08_reversed_patches.main.file tf_Remove_XinitX))
    (k_Remove_XinitX : PySem.W.keepIn K (.ref f_Remove_XinitX) = true)
    (fn_Remove_XinitX : PySem.W.isFn K (.ref f_Remove_XinitX) = true)
    (fi_Remove_XinitX : PySem.W.fnIn K f_Remove_XinitX = true)
    (a_Remove_content : PySem.W.findIn K (.ref c_Remove) "content" = some (some (.ref f_Remove_content)))
    (l_Remove_content : K.lookup f_Remove_content = some ⟨oc_Remove_content, od_Remove_content, .func (PySem.W.fnOf "content" "Remove.content" (defArgs s_Remove_content) (defBody s_Remove_content) (defScope s_Remove_content) .none kV_Remove_content dc_Remove_content pm_Remove_content an_Remove_content cd_Remove_content ct_Remove_content), sl_Remove_content⟩)
    (c_Remove_content : PySem.W.codeIn K cd_Remove_content "Remove.content" = true)
    (k_Remove_content : PySem.W.keepIn K (.ref f_Remove_content) = true)
    (fn_Remove_content : PySem.W.isFn K (.ref f_Remove_content) = true)
    (fi_Remove_content : PySem.W.fnIn K f_Remove_content = true)
    (a_Patch_XinitX : PySem.W.findIn K (.ref c_Patch) "__init__" = some (some (.ref f_Patch_XinitX)))
    (l_Patch_XinitX : K.lookup f_Patch_XinitX = some ⟨oc_Patch_XinitX, od_Patch_XinitX, .func (PySem.W.fnOf "__init__" "Patch.__init__" (defArgs s_Patch_XinitX) (defBody s_Patch_XinitX) (defScope s_Patch_XinitX) .none kV_Patch_XinitX dc_Patch_XinitX pm_Patch_XinitX an_Patch_XinitX cd_Patch_XinitX ct_Patch_XinitX), sl_Patch_XinitX⟩)
    (c_Patch_XinitX : PySem.W.codeIn K cd_Patch_XinitX "Patch.__init__" = true)
    (k_Patch_XinitX : PySem.W.keepIn K (.ref f_Patch_XinitX) = true)
    (fn_Patch_XinitX : PySem.W.isFn K (.ref f_Patch_XinitX) = true)
    (fi_Patch_XinitX : PySem.W.fnIn K f_Patch_XinitX = true)
    (a_Patch_of : PySem.W.findCls K (.ref c_Patch) (.type "type") "of" = some (.get (.builtin "classmethod.__get__") (.ref p_Patch_of) .none (.ref c_Patch)))
    (pg3_Patch_of : PySem.W.recIn K p_Patch_of "classmethod" = some (.ref f_Patch_of :: rs_Patch_of))
    (l_Patch_of : K.lookup f_Patch_of = some ⟨oc_Patch_of, od_Patch_of, .func (PySem.W.fnOf "of" "Patch.of" (defArgs s_Patch_of) (defBody s_Patch_of) (defScope s_Patch_of) .none kV_Patch_of dc_Patch_of pm_Patch_of an_Patch_of cd_Patch_of ct_Patch_of), sl_Patch_of⟩)
    (c_Patch_of : PySem.W.codeIn K cd_Patch_of "Patch.of" = true)
    (k_Patch_of : PySem.W.keepIn K (.ref f_Patch_of) = true)
    (fn_Patch_of : PySem.W.isFn K (.ref f_Patch_of) = true)
    (fi_Patch_of : PySem.W.fnIn K f_Patch_of = true)
    (a_Patch_XeqX : PySem.W.findIn K (.ref c_Patch) "__eq__" = some (some (.ref f_Patch_XeqX)))
    (l_Patch_XeqX : K.lookup f_Patch_XeqX = some ⟨oc_Patch_XeqX, od_Patch_XeqX, .func (PySem.W.fnOf "__eq__" "Patch.__eq__" (defArgs s_Patch_XeqX) (defBody s_Patch_XeqX) (defScope s_Patch_XeqX) .none kV_Patch_XeqX dc_Patch_XeqX pm_Patch_XeqX an_Patch_XeqX cd_Patch_XeqX ct_Patch_XeqX), sl_Patch_XeqX⟩)
    (c_Patch_XeqX : PySem.W.codeIn K cd_Patch_XeqX "Patch.__eq__" = true)
    (k_Patch_XeqX : PySem.W.keepIn K (.ref f_Patch_XeqX) = true)
    (fn_Patch_XeqX : PySem.W.isFn K (.ref f_Patch_XeqX) = true)
    (fi_Patch_XeqX : PySem.W.fnIn K f_Patch_XeqX = true)
    (a_first_wrong : PySem.W.nsIn K mainGlobals "first_wrong" = some (some (.ref f_first_wrong)))
    (l_first_wrong : K.lookup f_first_wrong = some ⟨oc_first_wrong, od_first_wrong, .func (PySem.W.fnOf "first_wrong" "first_wrong" (defArgs s_first_wrong) (defBody s_first_wrong) (defScope s_first_wrong) .none kV_first_wrong dc_first_wrong pm_first_wrong an_first_wrong cd_first_wrong ct_first_wrong), sl_first_wrong⟩)
    (c_first_wrong : PySem.W.codeIn K cd_first_wrong "first_wrong" = true)
    (k_first_wrong : PySem.W.keepIn K (.ref f_first_wrong) = true)
    (a_edited : PySem.W.nsIn K mainGlobals "edited" = some (some (.ref f_edited)))
    (l_edited : K.lookup f_edited = some ⟨oc_edited, od_edited, .func (PySem.W.fnOf "edited" "edited" (defArgs s_edited) (defBody s_edited) (defScope s_edited) .none kV_edited dc_edited pm_edited an_edited cd_edited ct_edited), sl_edited⟩)
    (c_edited : PySem.W.codeIn K cd_edited "edited" = true)
    (k_edited : PySem.W.keepIn K (.ref f_edited) = true)
    (a_applied : PySem.W.nsIn K mainGlobals "applied" = some (some (.ref f_applied)))
    (l_applied : K.lookup f_applied = some ⟨oc_applied, od_applied, .func (PySem.W.fnOf "applied" "applied" (defArgs s_applied) (defBody s_applied) (defScope s_applied) .none kV_applied dc_applied pm_applied an_applied cd_applied ct_applied), sl_applied⟩)
    (c_applied : PySem.W.codeIn K cd_applied "applied" = true)
    (k_applied : PySem.W.keepIn K (.ref f_applied) = true)
    (a_apply_patch : PySem.W.nsIn K mainGlobals "apply_patch" = some (some (.ref f_apply_patch)))
    (l_apply_patch : K.lookup f_apply_patch = some ⟨oc_apply_patch, od_apply_patch, .func (PySem.W.fnOf "apply_patch" "apply_patch" (defArgs s_apply_patch) (defBody s_apply_patch) (defScope s_apply_patch) .none kV_apply_patch dc_apply_patch pm_apply_patch an_apply_patch cd_apply_patch ct_apply_patch), sl_apply_patch⟩)
    (c_apply_patch : PySem.W.codeIn K cd_apply_patch "apply_patch" = true)
    (k_apply_patch : PySem.W.keepIn K (.ref f_apply_patch) = true)
    (a_reversed_change : PySem.W.nsIn K mainGlobals "reversed_change" = some (some (.ref f_reversed_change)))
    (l_reversed_change : K.lookup f_reversed_change = some ⟨oc_reversed_change, od_reversed_change, .func (PySem.W.fnOf "reversed_change" "reversed_change" (defArgs s_reversed_change) (defBody s_reversed_change) (defScope s_reversed_change) .none kV_reversed_change dc_reversed_change pm_reversed_change an_reversed_change cd_reversed_change ct_reversed_change), sl_reversed_change⟩)
    (c_reversed_change : PySem.W.codeIn K cd_reversed_change "reversed_change" = true)
    (k_reversed_change : PySem.W.keepIn K (.ref f_reversed_change) = true)
    (a_reversed_patch : PySem.W.nsIn K mainGlobals "reversed_patch" = some (some (.ref f_reversed_patch)))
    (l_reversed_patch : K.lookup f_reversed_patch = some ⟨oc_reversed_patch, od_reversed_patch, .func (PySem.W.fnOf "reversed_patch" "reversed_patch" (defArgs s_reversed_patch) (defBody s_reversed_patch) (defScope s_reversed_patch) .none kV_reversed_patch dc_reversed_patch pm_reversed_patch an_reversed_patch cd_reversed_patch ct_reversed_patch), sl_reversed_patch⟩)
    (c_reversed_patch : PySem.W.codeIn K cd_reversed_patch "reversed_patch" = true)
    (k_reversed_patch : PySem.W.keepIn K (.ref f_reversed_patch) = true)
    (a_law_source : PySem.W.nsIn K mainGlobals "_law_source" = some (some (.ref f_law_source)))
    (l_law_source : K.lookup f_law_source = some ⟨oc_law_source, od_law_source, .func (PySem.W.fnOf "_law_source" "_law_source" (defArgs s_law_source) (defBody s_law_source) (defScope s_law_source) .none kV_law_source dc_law_source pm_law_source an_law_source cd_law_source ct_law_source), sl_law_source⟩)
    (c_law_source : PySem.W.codeIn K cd_law_source "_law_source" = true)
    (k_law_source : PySem.W.keepIn K (.ref f_law_source) = true)
    (a_law_draw : PySem.W.nsIn K mainGlobals "_law_draw" = some (some (.ref f_law_draw)))
    (l_law_draw : K.lookup f_law_draw = some ⟨oc_law_draw, od_law_draw, .func (PySem.W.fnOf "_law_draw" "_law_draw" (defArgs s_law_draw) (defBody s_law_draw) (defScope s_law_draw) .none kV_law_draw dc_law_draw pm_law_draw an_law_draw cd_law_draw ct_law_draw), sl_law_draw⟩)
    (c_law_draw : PySem.W.codeIn K cd_law_draw "_law_draw" = true)
    (k_law_draw : PySem.W.keepIn K (.ref f_law_draw) = true)
    (a_law_some_lines : PySem.W.nsIn K mainGlobals "_law_some_lines" = some (some (.ref f_law_some_lines)))
    (l_law_some_lines : K.lookup f_law_some_lines = some ⟨oc_law_some_lines, od_law_some_lines, .func (PySem.W.fnOf "_law_some_lines" "_law_some_lines" (defArgs s_law_some_lines) (defBody s_law_some_lines) (defScope s_law_some_lines) .none kV_law_some_lines dc_law_some_lines pm_law_some_lines an_law_some_lines cd_law_some_lines ct_law_some_lines), sl_law_some_lines⟩)
    (c_law_some_lines : PySem.W.codeIn K cd_law_some_lines "_law_some_lines" = true)
    (k_law_some_lines : PySem.W.keepIn K (.ref f_law_some_lines) = true)
    (a_law_drawn_tree : PySem.W.nsIn K mainGlobals "_law_drawn_tree" = some (some (.ref f_law_drawn_tree)))
    (l_law_drawn_tree : K.lookup f_law_drawn_tree = some ⟨oc_law_drawn_tree, od_law_drawn_tree, .func (PySem.W.fnOf "_law_drawn_tree" "_law_drawn_tree" (defArgs s_law_drawn_tree) (defBody s_law_drawn_tree) (defScope s_law_drawn_tree) .none kV_law_drawn_tree dc_law_drawn_tree pm_law_drawn_tree an_law_drawn_tree cd_law_drawn_tree ct_law_drawn_tree), sl_law_drawn_tree⟩)
    (c_law_drawn_tree : PySem.W.codeIn K cd_law_drawn_tree "_law_drawn_tree" = true)
    (k_law_drawn_tree : PySem.W.keepIn K (.ref f_law_drawn_tree) = true)
    (a_law_built : PySem.W.nsIn K mainGlobals "_law_built" = some (some (.ref f_law_built)))
    (l_law_built : K.lookup f_law_built = some ⟨oc_law_built, od_law_built, .func (PySem.W.fnOf "_law_built" "_law_built" (defArgs s_law_built) (defBody s_law_built) (defScope s_law_built) .none kV_law_built dc_law_built pm_law_built an_law_built cd_law_built ct_law_built), sl_law_built⟩)
    (c_law_built : PySem.W.codeIn K cd_law_built "_law_built" = true)
    (k_law_built : PySem.W.keepIn K (.ref f_law_built) = true)
    (a_law_exact_hunks : PySem.W.nsIn K mainGlobals "_law_exact_hunks" = some (some (.ref f_law_exact_hunks)))
    (l_law_exact_hunks : K.lookup f_law_exact_hunks = some ⟨oc_law_exact_hunks, od_law_exact_hunks, .func (PySem.W.fnOf "_law_exact_hunks" "_law_exact_hunks" (defArgs s_law_exact_hunks) (defBody s_law_exact_hunks) (defScope s_law_exact_hunks) .none kV_law_exact_hunks dc_law_exact_hunks pm_law_exact_hunks an_law_exact_hunks cd_law_exact_hunks ct_law_exact_hunks), sl_law_exact_hunks⟩)
    (c_law_exact_hunks : PySem.W.codeIn K cd_law_exact_hunks "_law_exact_hunks" = true)
    (k_law_exact_hunks : PySem.W.keepIn K (.ref f_law_exact_hunks) = true)
    (a_law_exact_patch : PySem.W.nsIn K mainGlobals "_law_exact_patch" = some (some (.ref f_law_exact_patch)))
    (l_law_exact_patch : K.lookup f_law_exact_patch = some ⟨oc_law_exact_patch, od_law_exact_patch, .func (PySem.W.fnOf "_law_exact_patch" "_law_exact_patch" (defArgs s_law_exact_patch) (defBody s_law_exact_patch) (defScope s_law_exact_patch) .none kV_law_exact_patch dc_law_exact_patch pm_law_exact_patch an_law_exact_patch cd_law_exact_patch ct_law_exact_patch), sl_law_exact_patch⟩)
    (c_law_exact_patch : PySem.W.codeIn K cd_law_exact_patch "_law_exact_patch" = true)
    (k_law_exact_patch : PySem.W.keepIn K (.ref f_law_exact_patch) = true)
    (a_law : PySem.W.nsIn K mainGlobals "law" = some (some (.ref f_law)))
    (l_law : K.lookup f_law = some ⟨oc_law, od_law, .func (PySem.W.fnOf "law" "law" (defArgs s_law) (defBody s_law) (defScope s_law) .none kV_law dc_law pm_law an_law cd_law ct_law), sl_law⟩)
    (c_law : PySem.W.codeIn K cd_law "law" = true)
    (k_law : PySem.W.keepIn K (.ref f_law) = true)
    (zsuper : PySem.W.nsIn K mainGlobals "super" = some none)
    (zany : PySem.W.nsIn K cStatics "thirdparty.any" = some none)
    (co1_Change_KIND : PySem.W.findIn K (.ref c_Change) "KIND" = some (some u_Change_KIND))
    (co2_Change_KIND : RelV (.str "none") u_Change_KIND)
    (co3_Change_KIND : PySem.W.specialIn K u_Change_KIND "__get__" = some none)
    (co4_Change_KIND : PySem.W.copiedNames.contains "KIND" = false)
    (me_Edit_XeqX : PySem.W.findIn K (.ref c_Edit) "__eq__" = some (some (.ref f_Change_XeqX)))
    (co1_Edit_KIND : PySem.W.findIn K (.ref c_Edit) "KIND" = some (some u_Edit_KIND))
    (co2_Edit_KIND : RelV (.str "edit") u_Edit_KIND)
    (co3_Edit_KIND : PySem.W.specialIn K u_Edit_KIND "__get__" = some none)
    (co4_Edit_KIND : PySem.W.copiedNames.contains "KIND" = false)
    (me_Create_XeqX : PySem.W.findIn K (.ref c_Create) "__eq__" = some (some (.ref f_Change_XeqX)))
    (co1_Create_KIND : PySem.W.findIn K (.ref c_Create) "KIND" = some (some u_Create_KIND))
    (co2_Create_KIND : RelV (.str "create") u_Create_KIND)
    (co3_Create_KIND : PySem.W.specialIn K u_Create_KIND "__get__" = some none)
    (co4_Create_KIND : PySem.W.copiedNames.contains "KIND" = false)
    (me_Remove_XeqX : PySem.W.findIn K (.ref c_Remove) "__eq__" = some (some (.ref f_Change_XeqX)))
    (co1_Remove_KIND : PySem.W.findIn K (.ref c_Remove) "KIND" = some (some u_Remove_KIND))
    (co2_Remove_KIND : RelV (.str "remove") u_Remove_KIND)
    (co3_Remove_KIND : PySem.W.specialIn K u_Remove_KIND "__get__" = some none)
    (co4_Remove_KIND : PySem.W.copiedNames.contains "KIND" = false)
    (gz_LETTERS : PySem.W.nsIn K mainGlobals "LETTERS" = some (some u_LETTERS))
    (gr_LETTERS : RelV (.str "abcdefghijklmnopqrstuvwxyz") u_LETTERS)
    (gz_MOST_LETTERS : PySem.W.nsIn K mainGlobals "MOST_LETTERS" = some (some u_MOST_LETTERS))
    (gr_MOST_LETTERS : RelV (.int 12) u_MOST_LETTERS)
    (gz_MOST_PARTS : PySem.W.nsIn K mainGlobals "MOST_PARTS" = some (some u_MOST_PARTS))
    (gr_MOST_PARTS : RelV (.int 3) u_MOST_PARTS)
    (gz_MOST_PART : PySem.W.nsIn K mainGlobals "MOST_PART" = some (some u_MOST_PART))
    (gr_MOST_PART : RelV (.int 8) u_MOST_PART)
    (ne_Hunk : PySem.W.findIn K (.ref c_Hunk) "__ne__" = some (some (.builtin "object.__ne__")))
    (ne_Change : PySem.W.findIn K (.ref c_Change) "__ne__" = some (some (.builtin "object.__ne__")))
    (ne_Edit : PySem.W.findIn K (.ref c_Edit) "__ne__" = some (some (.builtin "object.__ne__")))
    (ne_Create : PySem.W.findIn K (.ref c_Create) "__ne__" = some (some (.builtin "object.__ne__")))
    (ne_Remove : PySem.W.findIn K (.ref c_Remove) "__ne__" = some (some (.builtin "object.__ne__")))
    (ne_Patch : PySem.W.findIn K (.ref c_Patch) "__ne__" = some (some (.builtin "object.__ne__")))
    (ne_Tree : PySem.W.findIn K (.ref c_Tree) "__ne__" = some (some (.builtin "object.__ne__")))
    (su_Hunk : PySem.W.subIn K (.ref c_Hunk) (.ref c_Hunk) = some true)
    (st_Hunk : PySem.W.subIn K (.type "tuple") (.ref c_Hunk) = some false)
    (nf_Hunk_Hunk : PySem.W.notFirst K c_Hunk (.ref c_Hunk) = true)
    (nt_Hunk : PySem.W.notFirst K c_Hunk (.type "tuple") = true)
    (su_Patch : PySem.W.subIn K (.ref c_Patch) (.ref c_Patch) = some true)
    (st_Patch : PySem.W.subIn K (.type "tuple") (.ref c_Patch) = some false)
    (nf_Patch_Patch : PySem.W.notFirst K c_Patch (.ref c_Patch) = true)
    (nt_Patch : PySem.W.notFirst K c_Patch (.type "tuple") = true)
    (su_Tree : PySem.W.subIn K (.ref c_Tree) (.ref c_Tree) = some true)
    (st_Tree : PySem.W.subIn K (.type "tuple") (.ref c_Tree) = some false)
    (nf_Tree_Tree : PySem.W.notFirst K c_Tree (.ref c_Tree) = true)
    (nt_Tree : PySem.W.notFirst K c_Tree (.type "tuple") = true)
    (ss_Patch : PySem.W.subIn K (.type "str") (.ref c_Patch) = some false)
    (ns_Patch : PySem.W.notFirst K c_Patch (.type "str") = true)
    (su_Change : PySem.W.subIn K (.ref c_Change) (.ref c_Change) = some true)
    (se_Change : PySem.W.subIn K (.ref c_Change) (.ref c_Edit) = some false)
    (sc_Change : PySem.W.subIn K (.ref c_Change) (.ref c_Create) = some false)
    (sr_Change : PySem.W.subIn K (.ref c_Change) (.ref c_Remove) = some false)
    (nf_Change_Change : PySem.W.notFirst K c_Change (.ref c_Change) = true)
    (mr2_Edit : PySem.W.mroIn K c_Edit (.ref c_Change) = some true)
    (mr2_Create : PySem.W.mroIn K c_Create (.ref c_Change) = some true)
    (mr2_Remove : PySem.W.mroIn K c_Remove (.ref c_Change) = some true)
    (su_Edit : PySem.W.subIn K (.ref c_Edit) (.ref c_Change) = some true)
    (se_Edit : PySem.W.subIn K (.ref c_Edit) (.ref c_Edit) = some true)
    (sc_Edit : PySem.W.subIn K (.ref c_Edit) (.ref c_Create) = some false)
    (sr_Edit : PySem.W.subIn K (.ref c_Edit) (.ref c_Remove) = some false)
    (si_Edit : PySem.W.ks_superIn K c_Edit c_Edit "__init__" = some (some (.ref f_Change_XinitX)))
    (mr_Edit : PySem.W.mroIn K c_Edit (.ref c_Edit) = some true)
    (nq_Edit : c_Edit ≠ c_Change)
    (nf_Edit_Change : PySem.W.notFirst K c_Edit (.ref c_Change) = true)
    (nf_Edit_Edit : PySem.W.notFirst K c_Edit (.ref c_Edit) = true)
    (nf_Edit_Create : PySem.W.notFirst K c_Edit (.ref c_Create) = true)
    (nf_Edit_Remove : PySem.W.notFirst K c_Edit (.ref c_Remove) = true)
    (su_Create : PySem.W.subIn K (.ref c_Create) (.ref c_Change) = some true)
    (se_Create : PySem.W.subIn K (.ref c_Create) (.ref c_Edit) = some false)
    (sc_Create : PySem.W.subIn K (.ref c_Create) (.ref c_Create) = some true)
    (sr_Create : PySem.W.subIn K (.ref c_Create) (.ref c_Remove) = some false)
    (si_Create : PySem.W.ks_superIn K c_Create c_Create "__init__" = some (some (.ref f_Change_XinitX)))
    (mr_Create : PySem.W.mroIn K c_Create (.ref c_Create) = some true)
    (nq_Create : c_Create ≠ c_Change)
    (nqe_Create : c_Create ≠ c_Edit)
    (nf_Create_Change : PySem.W.notFirst K c_Create (.ref c_Change) = true)
    (nf_Create_Edit : PySem.W.notFirst K c_Create (.ref c_Edit) = true)
    (nf_Create_Create : PySem.W.notFirst K c_Create (.ref c_Create) = true)
    (nf_Create_Remove : PySem.W.notFirst K c_Create (.ref c_Remove) = true)
    (su_Remove : PySem.W.subIn K (.ref c_Remove) (.ref c_Change) = some true)
    (se_Remove : PySem.W.subIn K (.ref c_Remove) (.ref c_Edit) = some false)
    (sc_Remove : PySem.W.subIn K (.ref c_Remove) (.ref c_Create) = some false)
    (sr_Remove : PySem.W.subIn K (.ref c_Remove) (.ref c_Remove) = some true)
    (si_Remove : PySem.W.ks_superIn K c_Remove c_Remove "__init__" = some (some (.ref f_Change_XinitX)))
    (mr_Remove : PySem.W.mroIn K c_Remove (.ref c_Remove) = some true)
    (nq_Remove : c_Remove ≠ c_Change)
    (nqe_Remove : c_Remove ≠ c_Edit)
    (nf_Remove_Change : PySem.W.notFirst K c_Remove (.ref c_Change) = true)
    (nf_Remove_Edit : PySem.W.notFirst K c_Remove (.ref c_Edit) = true)
    (nf_Remove_Create : PySem.W.notFirst K c_Remove (.ref c_Create) = true)
    (nf_Remove_Remove : PySem.W.notFirst K c_Remove (.ref c_Remove) = true)
    (nqCR : c_Create ≠ c_Remove) :
    ∃ ad : Ad, Txt PySem.Challenge.pw_sourcequeue_k08_reversed_patches K mg ad ∧ ad.a_law = fa := by
  have e : fa = f_law := Value.ref.inj (Option.some.inj (hfa.symm.trans (PySem.W.mg_of X G a_law)))
  refine ⟨{ c_SourceError := c_SourceError, c_BadName := c_BadName, c_BadPath := c_BadPath, c_NoFile := c_NoFile, c_BadHunk := c_BadHunk, c_BadPatch := c_BadPatch, c_Refused := c_Refused, c_Tree := c_Tree, c_Hunk := c_Hunk, c_Change := c_Change, c_Edit := c_Edit, c_Create := c_Create, c_Remove := c_Remove, c_Patch := c_Patch, a_BadName_XinitX := f_BadName_XinitX, d_BadName_XinitX := PySem.W.fnOf "__init__" "BadName.__init__" (defArgs s_BadName_XinitX) (defBody s_BadName_XinitX) (defScope s_BadName_XinitX) .none kV_BadName_XinitX dc_BadName_XinitX pm_BadName_XinitX an_BadName_XinitX cd_BadName_XinitX ct_BadName_XinitX, a_BadHunk_XinitX := f_BadHunk_XinitX, d_BadHunk_XinitX := PySem.W.fnOf "__init__" "BadHunk.__init__" (defArgs s_BadHunk_XinitX) (defBody s_BadHunk_XinitX) (defScope s_BadHunk_XinitX) .none kV_BadHunk_XinitX dc_BadHunk_XinitX pm_BadHunk_XinitX an_BadHunk_XinitX cd_BadHunk_XinitX ct_BadHunk_XinitX, a_BadPatch_XinitX := f_BadPatch_XinitX, d_BadPatch_XinitX := PySem.W.fnOf "__init__" "BadPatch.__init__" (defArgs s_BadPatch_XinitX) (defBody s_BadPatch_XinitX) (defScope s_BadPatch_XinitX) .none kV_BadPatch_XinitX dc_BadPatch_XinitX pm_BadPatch_XinitX an_BadPatch_XinitX cd_BadPatch_XinitX ct_BadPatch_XinitX, a_is_word := f_is_word, d_is_word := PySem.W.fnOf "is_word" "is_word" (defArgs s_is_word) (defBody s_is_word) (defScope s_is_word) .none kV_is_word dc_is_word pm_is_word an_is_word cd_is_word ct_is_word, a_is_name := f_is_name, d_is_name := PySem.W.fnOf "is_name" "is_name" (defArgs s_is_name) (defBody s_is_name) (defScope s_is_name) .none kV_is_name dc_is_name pm_is_name an_is_name cd_is_name ct_is_name, a_is_path := f_is_path, d_is_path := PySem.W.fnOf "is_path" "is_path" (defArgs s_is_path) (defBody s_is_path) (defScope s_is_path) .none kV_is_path dc_is_path pm_is_path an_is_path cd_is_path ct_is_path, a_Tree_XinitX := f_Tree_XinitX, d_Tree_XinitX := PySem.W.fnOf "__init__" "Tree.__init__" (defArgs s_Tree_XinitX) (defBody s_Tree_XinitX) (defScope s_Tree_XinitX) .none kV_Tree_XinitX dc_Tree_XinitX pm_Tree_XinitX an_Tree_XinitX cd_Tree_XinitX ct_Tree_XinitX, a_Tree_files := f_Tree_files, d_Tree_files := PySem.W.fnOf "files" "Tree.files" (defArgs s_Tree_files) (defBody s_Tree_files) (defScope s_Tree_files) .none kV_Tree_files dc_Tree_files pm_Tree_files an_Tree_files cd_Tree_files ct_Tree_files, a_Tree_file := f_Tree_file, d_Tree_file := PySem.W.fnOf "file" "Tree.file" (defArgs s_Tree_file) (defBody s_Tree_file) (defScope s_Tree_file) .none kV_Tree_file dc_Tree_file pm_Tree_file an_Tree_file cd_Tree_file ct_Tree_file, a_Tree_found := f_Tree_found, d_Tree_found := PySem.W.fnOf "found" "Tree.found" (defArgs s_Tree_found) (defBody s_Tree_found) (defScope s_Tree_found) .none kV_Tree_found dc_Tree_found pm_Tree_found an_Tree_found cd_Tree_found ct_Tree_found, a_Tree_put := f_Tree_put, d_Tree_put := PySem.W.fnOf "put" "Tree.put" (defArgs s_Tree_put) (defBody s_Tree_put) (defScope s_Tree_put) .none kV_Tree_put dc_Tree_put pm_Tree_put an_Tree_put cd_Tree_put ct_Tree_put, a_Tree_drop := f_Tree_drop, d_Tree_drop := PySem.W.fnOf "drop" "Tree.drop" (defArgs s_Tree_drop) (defBody s_Tree_drop) (defScope s_Tree_drop) .none kV_Tree_drop dc_Tree_drop pm_Tree_drop an_Tree_drop cd_Tree_drop ct_Tree_drop, a_Tree_XeqX := f_Tree_XeqX, d_Tree_XeqX := PySem.W.fnOf "__eq__" "Tree.__eq__" (defArgs s_Tree_XeqX) (defBody s_Tree_XeqX) (defScope s_Tree_XeqX) .none kV_Tree_XeqX dc_Tree_XeqX pm_Tree_XeqX an_Tree_XeqX cd_Tree_XeqX ct_Tree_XeqX, a_Hunk_XinitX := f_Hunk_XinitX, d_Hunk_XinitX := PySem.W.fnOf "__init__" "Hunk.__init__" (defArgs s_Hunk_XinitX) (defBody s_Hunk_XinitX) (defScope s_Hunk_XinitX) .none kV_Hunk_XinitX dc_Hunk_XinitX pm_Hunk_XinitX an_Hunk_XinitX cd_Hunk_XinitX ct_Hunk_XinitX, a_Hunk_growth := f_Hunk_growth, d_Hunk_growth := PySem.W.fnOf "growth" "Hunk.growth" (defArgs s_Hunk_growth) (defBody s_Hunk_growth) (defScope s_Hunk_growth) .none kV_Hunk_growth dc_Hunk_growth pm_Hunk_growth an_Hunk_growth cd_Hunk_growth ct_Hunk_growth, a_Hunk_end := f_Hunk_end, d_Hunk_end := PySem.W.fnOf "end" "Hunk.end" (defArgs s_Hunk_end) (defBody s_Hunk_end) (defScope s_Hunk_end) .none kV_Hunk_end dc_Hunk_end pm_Hunk_end an_Hunk_end cd_Hunk_end ct_Hunk_end, a_Hunk_XeqX := f_Hunk_XeqX, d_Hunk_XeqX := PySem.W.fnOf "__eq__" "Hunk.__eq__" (defArgs s_Hunk_XeqX) (defBody s_Hunk_XeqX) (defScope s_Hunk_XeqX) .none kV_Hunk_XeqX dc_Hunk_XeqX pm_Hunk_XeqX an_Hunk_XeqX cd_Hunk_XeqX ct_Hunk_XeqX, a_Change_XinitX := f_Change_XinitX, d_Change_XinitX := PySem.W.fnOf "__init__" "Change.__init__" (defArgs s_Change_XinitX) (defBody s_Change_XinitX) (defScope s_Change_XinitX) .none kV_Change_XinitX dc_Change_XinitX pm_Change_XinitX an_Change_XinitX cd_Change_XinitX ct_Change_XinitX, a_Change_content := f_Change_content, d_Change_content := PySem.W.fnOf "content" "Change.content" (defArgs s_Change_content) (defBody s_Change_content) (defScope s_Change_content) .none kV_Change_content dc_Change_content pm_Change_content an_Change_content cd_Change_content ct_Change_content, a_Change_XeqX := f_Change_XeqX, d_Change_XeqX := PySem.W.fnOf "__eq__" "Change.__eq__" (defArgs s_Change_XeqX) (defBody s_Change_XeqX) (defScope s_Change_XeqX) .none kV_Change_XeqX dc_Change_XeqX pm_Change_XeqX an_Change_XeqX cd_Change_XeqX ct_Change_XeqX, a_Edit_XinitX := f_Edit_XinitX, d_Edit_XinitX := PySem.W.ksFn "__init__" "Edit.__init__" (defArgs s_Edit_XinitX) (defBody s_Edit_XinitX) (defScope s_Edit_XinitX) .none kV_Edit_XinitX dc_Edit_XinitX pm_Edit_XinitX an_Edit_XinitX (.ref cd_Edit_XinitX) ct_Edit_XinitX cx_Edit_XinitX, cd_Edit_XinitX := cd_Edit_XinitX, a_Edit_content := f_Edit_content, d_Edit_content := PySem.W.fnOf "content" "Edit.content" (defArgs s_Edit_content) (defBody s_Edit_content) (defScope s_Edit_content) .none kV_Edit_content dc_Edit_content pm_Edit_content an_Edit_content cd_Edit_content ct_Edit_content, a_Create_XinitX := f_Create_XinitX, d_Create_XinitX := PySem.W.ksFn "__init__" "Create.__init__" (defArgs s_Create_XinitX) (defBody s_Create_XinitX) (defScope s_Create_XinitX) .none kV_Create_XinitX dc_Create_XinitX pm_Create_XinitX an_Create_XinitX (.ref cd_Create_XinitX) ct_Create_XinitX cx_Create_XinitX, cd_Create_XinitX := cd_Create_XinitX, a_Create_content := f_Create_content, d_Create_content := PySem.W.fnOf "content" "Create.content" (defArgs s_Create_content) (defBody s_Create_content) (defScope s_Create_content) .none kV_Create_content dc_Create_content pm_Create_content an_Create_content cd_Create_content ct_Create_content, a_Remove_XinitX := f_Remove_XinitX, d_Remove_XinitX := PySem.W.ksFn "__init__" "Remove.__init__" (defArgs s_Remove_XinitX) (defBody s_Remove_XinitX) (defScope s_Remove_XinitX) .none kV_Remove_XinitX dc_Remove_XinitX pm_Remove_XinitX an_Remove_XinitX (.ref cd_Remove_XinitX) ct_Remove_XinitX cx_Remove_XinitX, cd_Remove_XinitX := cd_Remove_XinitX, a_Remove_content := f_Remove_content, d_Remove_content := PySem.W.fnOf "content" "Remove.content" (defArgs s_Remove_content) (defBody s_Remove_content) (defScope s_Remove_content) .none kV_Remove_content dc_Remove_content pm_Remove_content an_Remove_content cd_Remove_content ct_Remove_content, a_Patch_XinitX := f_Patch_XinitX, d_Patch_XinitX := PySem.W.fnOf "__init__" "Patch.__init__" (defArgs s_Patch_XinitX) (defBody s_Patch_XinitX) (defScope s_Patch_XinitX) .none kV_Patch_XinitX dc_Patch_XinitX pm_Patch_XinitX an_Patch_XinitX cd_Patch_XinitX ct_Patch_XinitX, a_Patch_of := f_Patch_of, d_Patch_of := PySem.W.fnOf "of" "Patch.of" (defArgs s_Patch_of) (defBody s_Patch_of) (defScope s_Patch_of) .none kV_Patch_of dc_Patch_of pm_Patch_of an_Patch_of cd_Patch_of ct_Patch_of, a_Patch_XeqX := f_Patch_XeqX, d_Patch_XeqX := PySem.W.fnOf "__eq__" "Patch.__eq__" (defArgs s_Patch_XeqX) (defBody s_Patch_XeqX) (defScope s_Patch_XeqX) .none kV_Patch_XeqX dc_Patch_XeqX pm_Patch_XeqX an_Patch_XeqX cd_Patch_XeqX ct_Patch_XeqX, a_first_wrong := f_first_wrong, d_first_wrong := PySem.W.fnOf "first_wrong" "first_wrong" (defArgs s_first_wrong) (defBody s_first_wrong) (defScope s_first_wrong) .none kV_first_wrong dc_first_wrong pm_first_wrong an_first_wrong cd_first_wrong ct_first_wrong, a_edited := f_edited, d_edited := PySem.W.fnOf "edited" "edited" (defArgs s_edited) (defBody s_edited) (defScope s_edited) .none kV_edited dc_edited pm_edited an_edited cd_edited ct_edited, a_applied := f_applied, d_applied := PySem.W.fnOf "applied" "applied" (defArgs s_applied) (defBody s_applied) (defScope s_applied) .none kV_applied dc_applied pm_applied an_applied cd_applied ct_applied, a_apply_patch := f_apply_patch, d_apply_patch := PySem.W.fnOf "apply_patch" "apply_patch" (defArgs s_apply_patch) (defBody s_apply_patch) (defScope s_apply_patch) .none kV_apply_patch dc_apply_patch pm_apply_patch an_apply_patch cd_apply_patch ct_apply_patch, a_reversed_change := f_reversed_change, d_reversed_change := PySem.W.fnOf "reversed_change" "reversed_change" (defArgs s_reversed_change) (defBody s_reversed_change) (defScope s_reversed_change) .none kV_reversed_change dc_reversed_change pm_reversed_change an_reversed_change cd_reversed_change ct_reversed_change, a_reversed_patch := f_reversed_patch, d_reversed_patch := PySem.W.fnOf "reversed_patch" "reversed_patch" (defArgs s_reversed_patch) (defBody s_reversed_patch) (defScope s_reversed_patch) .none kV_reversed_patch dc_reversed_patch pm_reversed_patch an_reversed_patch cd_reversed_patch ct_reversed_patch, a_law_source := f_law_source, d_law_source := PySem.W.fnOf "_law_source" "_law_source" (defArgs s_law_source) (defBody s_law_source) (defScope s_law_source) .none kV_law_source dc_law_source pm_law_source an_law_source cd_law_source ct_law_source, a_law_draw := f_law_draw, d_law_draw := PySem.W.fnOf "_law_draw" "_law_draw" (defArgs s_law_draw) (defBody s_law_draw) (defScope s_law_draw) .none kV_law_draw dc_law_draw pm_law_draw an_law_draw cd_law_draw ct_law_draw, a_law_some_lines := f_law_some_lines, d_law_some_lines := PySem.W.fnOf "_law_some_lines" "_law_some_lines" (defArgs s_law_some_lines) (defBody s_law_some_lines) (defScope s_law_some_lines) .none kV_law_some_lines dc_law_some_lines pm_law_some_lines an_law_some_lines cd_law_some_lines ct_law_some_lines, a_law_drawn_tree := f_law_drawn_tree, d_law_drawn_tree := PySem.W.fnOf "_law_drawn_tree" "_law_drawn_tree" (defArgs s_law_drawn_tree) (defBody s_law_drawn_tree) (defScope s_law_drawn_tree) .none kV_law_drawn_tree dc_law_drawn_tree pm_law_drawn_tree an_law_drawn_tree cd_law_drawn_tree ct_law_drawn_tree, a_law_built := f_law_built, d_law_built := PySem.W.fnOf "_law_built" "_law_built" (defArgs s_law_built) (defBody s_law_built) (defScope s_law_built) .none kV_law_built dc_law_built pm_law_built an_law_built cd_law_built ct_law_built, a_law_exact_hunks := f_law_exact_hunks, d_law_exact_hunks := PySem.W.fnOf "_law_exact_hunks" "_law_exact_hunks" (defArgs s_law_exact_hunks) (defBody s_law_exact_hunks) (defScope s_law_exact_hunks) .none kV_law_exact_hunks dc_law_exact_hunks pm_law_exact_hunks an_law_exact_hunks cd_law_exact_hunks ct_law_exact_hunks, a_law_exact_patch := f_law_exact_patch, d_law_exact_patch := PySem.W.fnOf "_law_exact_patch" "_law_exact_patch" (defArgs s_law_exact_patch) (defBody s_law_exact_patch) (defScope s_law_exact_patch) .none kV_law_exact_patch dc_law_exact_patch pm_law_exact_patch an_law_exact_patch cd_law_exact_patch ct_law_exact_patch, a_law := f_law, d_law := PySem.W.fnOf "law" "law" (defArgs s_law) (defBody s_law) (defScope s_law) .none kV_law dc_law pm_law an_law cd_law ct_law, p_Tree_files := p_Tree_files, p_Hunk_growth := p_Hunk_growth, p_Patch_of := p_Patch_of }, ?_, e.symm⟩
  exact {
    n_all := PySem.W.mg_none_of X G zall,
    n_enumerate := PySem.W.mg_none_of X G zenumerate,
    n_isinstance := PySem.W.mg_none_of X G zisinstance,
    n_len := PySem.W.mg_none_of X G zlen,
    n_max := PySem.W.mg_none_of X G zmax,
    n_min := PySem.W.mg_none_of X G zmin,
    n_range := PySem.W.mg_none_of X G zrange,
    n_sorted := PySem.W.mg_none_of X G zsorted,
    n_str := PySem.W.mg_none_of X G zstr,
    n_tuple := PySem.W.mg_none_of X G ztuple,
    n_zip := PySem.W.mg_none_of X G zzip,
    hnx := hnx,
    tkx := tkx,
    mg_BadPath := PySem.W.mg_of X G mgx_BadPath,
    mg_NoFile := PySem.W.mg_of X G mgx_NoFile,
    mg_Refused := PySem.W.mg_of X G mgx_Refused,
    mg_SourceError := PySem.W.mg_of X G mgx_SourceError,
    bi_SourceError := ⟨⟨rd_SourceError, rg_SourceError⟩, ri_SourceError⟩,
    mg_BadName := PySem.W.mg_of X G mgx_BadName,
    ox_BadName := ox_BadName.mkF hnx tkx a_BadName_XinitX fn_BadName_XinitX,
    na_BadName_name := na_BadName_name,
    mg_BadHunk := PySem.W.mg_of X G mgx_BadHunk,
    ox_BadHunk := ox_BadHunk.mkF hnx tkx a_BadHunk_XinitX fn_BadHunk_XinitX,
    na_BadHunk_index := na_BadHunk_index,
    mg_BadPatch := PySem.W.mg_of X G mgx_BadPatch,
    ox_BadPatch := ox_BadPatch.mkF hnx tkx a_BadPatch_XinitX fn_BadPatch_XinitX,
    na_BadPatch_path := na_BadPatch_path,
    mg_Tree := PySem.W.mg_of X G mgx_Tree,
    cl_Tree := ⟨⟨pg_Tree, hd_Tree, po_Tree, sa_Tree⟩, oc_Tree, hnx, tkx, om_Tree, ic_Tree, tc_Tree⟩,
    mk_Tree := ⟨mk1_Tree, a_Tree_XinitX, fn_Tree_XinitX, kc_Tree⟩,
    na_Tree_by_path := na_Tree_by_path,
    na_Tree_sorted_paths := na_Tree_sorted_paths,
    me_Tree_XinitX := ⟨a_Tree_XinitX, fn_Tree_XinitX, k_Tree_XinitX⟩,
    pr_Tree_files := ⟨a_Tree_files, pg1_Tree_files, pg2_Tree_files, ⟨_, pg3_Tree_files⟩⟩,
    me_Tree_file := ⟨a_Tree_file, fn_Tree_file, k_Tree_file⟩,
    me_Tree_found := ⟨a_Tree_found, fn_Tree_found, k_Tree_found⟩,
    me_Tree_put := ⟨a_Tree_put, fn_Tree_put, k_Tree_put⟩,
    me_Tree_drop := ⟨a_Tree_drop, fn_Tree_drop, k_Tree_drop⟩,
    me_Tree_XeqX := ⟨a_Tree_XeqX, fn_Tree_XeqX, k_Tree_XeqX⟩,
    mg_Hunk := PySem.W.mg_of X G mgx_Hunk,
    cl_Hunk := ⟨⟨pg_Hunk, hd_Hunk, po_Hunk, sa_Hunk⟩, oc_Hunk, hnx, tkx, om_Hunk, ic_Hunk, tc_Hunk⟩,
    mk_Hunk := ⟨mk1_Hunk, a_Hunk_XinitX, fn_Hunk_XinitX, kc_Hunk⟩,
    na_Hunk_at := na_Hunk_at,
    na_Hunk_before := na_Hunk_before,
    na_Hunk_after := na_Hunk_after,
    me_Hunk_XinitX := ⟨a_Hunk_XinitX, fn_Hunk_XinitX, k_Hunk_XinitX⟩,
    pr_Hunk_growth := ⟨a_Hunk_growth, pg1_Hunk_growth, pg2_Hunk_growth, ⟨_, pg3_Hunk_growth⟩⟩,
    me_Hunk_end := ⟨a_Hunk_end, fn_Hunk_end, k_Hunk_end⟩,
    me_Hunk_XeqX := ⟨a_Hunk_XeqX, fn_Hunk_XeqX, k_Hunk_XeqX⟩,
    mg_Change := PySem.W.mg_of X G mgx_Change,
    cl_Change := ⟨⟨pg_Change, hd_Change, po_Change, sa_Change⟩, oc_Change, hnx, tkx, om_Change, ic_Change, tc_Change⟩,
    mk_Change := ⟨mk1_Change, a_Change_XinitX, fn_Change_XinitX, kc_Change⟩,
    na_Change_path := na_Change_path,
    me_Change_XinitX := ⟨a_Change_XinitX, fn_Change_XinitX, k_Change_XinitX⟩,
    me_Change_content := ⟨a_Change_content, fn_Change_content, k_Change_content⟩,
    me_Change_XeqX := ⟨a_Change_XeqX, fn_Change_XeqX, k_Change_XeqX⟩,
    co_Change_KIND := ⟨_, co1_Change_KIND, co2_Change_KIND, co3_Change_KIND, co4_Change_KIND⟩,
    mg_Edit := PySem.W.mg_of X G mgx_Edit,
    cl_Edit := ⟨⟨pg_Edit, hd_Edit, po_Edit, sa_Edit⟩, oc_Edit, hnx, tkx, om_Edit, ic_Edit, tc_Edit⟩,
    mk_Edit := ⟨mk1_Edit, a_Edit_XinitX, fn_Edit_XinitX, kc_Edit⟩,
    na_Edit_path := na_Edit_path,
    na_Edit_hunks := na_Edit_hunks,
    me_Edit_XinitX := ⟨a_Edit_XinitX, fn_Edit_XinitX, k_Edit_XinitX⟩,
    me_Edit_content := ⟨a_Edit_content, fn_Edit_content, k_Edit_content⟩,
    me_Edit_XeqX := ⟨me_Edit_XeqX, fn_Change_XeqX, k_Change_XeqX⟩,
    co_Edit_KIND := ⟨_, co1_Edit_KIND, co2_Edit_KIND, co3_Edit_KIND, co4_Edit_KIND⟩,
    mg_Create := PySem.W.mg_of X G mgx_Create,
    cl_Create := ⟨⟨pg_Create, hd_Create, po_Create, sa_Create⟩, oc_Create, hnx, tkx, om_Create, ic_Create, tc_Create⟩,
    mk_Create := ⟨mk1_Create, a_Create_XinitX, fn_Create_XinitX, kc_Create⟩,
    na_Create_path := na_Create_path,
    na_Create_lines := na_Create_lines,
    me_Create_XinitX := ⟨a_Create_XinitX, fn_Create_XinitX, k_Create_XinitX⟩,
    me_Create_content := ⟨a_Create_content, fn_Create_content, k_Create_content⟩,
    me_Create_XeqX := ⟨me_Create_XeqX, fn_Change_XeqX, k_Change_XeqX⟩,
    co_Create_KIND := ⟨_, co1_Create_KIND, co2_Create_KIND, co3_Create_KIND, co4_Create_KIND⟩,
    mg_Remove := PySem.W.mg_of X G mgx_Remove,
    cl_Remove := ⟨⟨pg_Remove, hd_Remove, po_Remove, sa_Remove⟩, oc_Remove, hnx, tkx, om_Remove, ic_Remove, tc_Remove⟩,
    mk_Remove := ⟨mk1_Remove, a_Remove_XinitX, fn_Remove_XinitX, kc_Remove⟩,
    na_Remove_path := na_Remove_path,
    na_Remove_lines := na_Remove_lines,
    me_Remove_XinitX := ⟨a_Remove_XinitX, fn_Remove_XinitX, k_Remove_XinitX⟩,
    me_Remove_content := ⟨a_Remove_content, fn_Remove_content, k_Remove_content⟩,
    me_Remove_XeqX := ⟨me_Remove_XeqX, fn_Change_XeqX, k_Change_XeqX⟩,
    co_Remove_KIND := ⟨_, co1_Remove_KIND, co2_Remove_KIND, co3_Remove_KIND, co4_Remove_KIND⟩,
    mg_Patch := PySem.W.mg_of X G mgx_Patch,
    cl_Patch := ⟨⟨pg_Patch, hd_Patch, po_Patch, sa_Patch⟩, oc_Patch, hnx, tkx, om_Patch, ic_Patch, tc_Patch⟩,
    mk_Patch := ⟨mk1_Patch, a_Patch_XinitX, fn_Patch_XinitX, kc_Patch⟩,
    na_Patch_name := na_Patch_name,
    na_Patch_by_path := na_Patch_by_path,
    na_Patch_changes := na_Patch_changes,
    me_Patch_XinitX := ⟨a_Patch_XinitX, fn_Patch_XinitX, k_Patch_XinitX⟩,
    cm_Patch_of := ⟨a_Patch_of, ⟨_, pg3_Patch_of⟩, fi_Patch_of⟩,
    me_Patch_XeqX := ⟨a_Patch_XeqX, fn_Patch_XeqX, k_Patch_XeqX⟩,
    cr_Patch := ⟨rd_Patch, rg_Patch⟩,
    f_BadName_XinitX := fun_mk (st := s_BadName_XinitX) l_BadName_XinitX c_BadName_XinitX k_BadName_XinitX,
    b_BadName_XinitX := (fun_mk (st := s_BadName_XinitX) l_BadName_XinitX c_BadName_XinitX k_BadName_XinitX).binds (ps := ["self", "name"]) fun _ _ _ _ _ _ us hl => match us, hl with | [_, _], _ => rfl,
    fn_BadName_XinitX := fn_BadName_XinitX,
    fi_BadName_XinitX := fi_BadName_XinitX,
    k_BadName_XinitX := k_BadName_XinitX,
    f_BadHunk_XinitX := fun_mk (st := s_BadHunk_XinitX) l_BadHunk_XinitX c_BadHunk_XinitX k_BadHunk_XinitX,
    b_BadHunk_XinitX := (fun_mk (st := s_BadHunk_XinitX) l_BadHunk_XinitX c_BadHunk_XinitX k_BadHunk_XinitX).binds (ps := ["self", "index"]) fun _ _ _ _ _ _ us hl => match us, hl with | [_, _], _ => rfl,
    fn_BadHunk_XinitX := fn_BadHunk_XinitX,
    fi_BadHunk_XinitX := fi_BadHunk_XinitX,
    k_BadHunk_XinitX := k_BadHunk_XinitX,
    f_BadPatch_XinitX := fun_mk (st := s_BadPatch_XinitX) l_BadPatch_XinitX c_BadPatch_XinitX k_BadPatch_XinitX,
    b_BadPatch_XinitX := (fun_mk (st := s_BadPatch_XinitX) l_BadPatch_XinitX c_BadPatch_XinitX k_BadPatch_XinitX).binds (ps := ["self", "path"]) fun _ _ _ _ _ _ us hl => match us, hl with | [_, _], _ => rfl,
    fn_BadPatch_XinitX := fn_BadPatch_XinitX,
    fi_BadPatch_XinitX := fi_BadPatch_XinitX,
    k_BadPatch_XinitX := k_BadPatch_XinitX,
    f_is_word := fun_mk (st := s_is_word) l_is_word c_is_word k_is_word,
    b_is_word := (fun_mk (st := s_is_word) l_is_word c_is_word k_is_word).binds (ps := ["text", "most"]) fun _ _ _ _ _ _ us hl => match us, hl with | [_, _], _ => rfl,
    m_is_word := PySem.W.mg_of X G a_is_word,
    k_is_word := k_is_word,
    f_is_name := fun_mk (st := s_is_name) l_is_name c_is_name k_is_name,
    b_is_name := (fun_mk (st := s_is_name) l_is_name c_is_name k_is_name).binds (ps := ["text"]) fun _ _ _ _ _ _ us hl => match us, hl with | [_], _ => rfl,
    m_is_name := PySem.W.mg_of X G a_is_name,
    k_is_name := k_is_name,
    f_is_path := fun_mk (st := s_is_path) l_is_path c_is_path k_is_path,
    b_is_path := (fun_mk (st := s_is_path) l_is_path c_is_path k_is_path).binds (ps := ["text"]) fun _ _ _ _ _ _ us hl => match us, hl with | [_], _ => rfl,
    m_is_path := PySem.W.mg_of X G a_is_path,
    k_is_path := k_is_path,
    f_Tree_XinitX := fun_mk (st := s_Tree_XinitX) l_Tree_XinitX c_Tree_XinitX k_Tree_XinitX,
    b_Tree_XinitX := (fun_mk (st := s_Tree_XinitX) l_Tree_XinitX c_Tree_XinitX k_Tree_XinitX).binds (ps := ["self", "files"]) fun _ _ _ _ _ _ us hl => match us, hl with | [_, _], _ => rfl,
    fn_Tree_XinitX := fn_Tree_XinitX,
    fi_Tree_XinitX := fi_Tree_XinitX,
    k_Tree_XinitX := k_Tree_XinitX,
    f_Tree_files := fun_mk (st := s_Tree_files) l_Tree_files c_Tree_files k_Tree_files,
    b_Tree_files := (fun_mk (st := s_Tree_files) l_Tree_files c_Tree_files k_Tree_files).binds (ps := ["self"]) fun _ _ _ _ _ _ us hl => match us, hl with | [_], _ => rfl,
    fn_Tree_files := fn_Tree_files,
    fi_Tree_files := fi_Tree_files,
    k_Tree_files := k_Tree_files,
    f_Tree_file := fun_mk (st := s_Tree_file) l_Tree_file c_Tree_file k_Tree_file,
    b_Tree_file := (fun_mk (st := s_Tree_file) l_Tree_file c_Tree_file k_Tree_file).binds (ps := ["self", "path"]) fun _ _ _ _ _ _ us hl => match us, hl with | [_, _], _ => rfl,
    fn_Tree_file := fn_Tree_file,
    fi_Tree_file := fi_Tree_file,
    k_Tree_file := k_Tree_file,
    f_Tree_found := fun_mk (st := s_Tree_found) l_Tree_found c_Tree_found k_Tree_found,
    b_Tree_found := (fun_mk (st := s_Tree_found) l_Tree_found c_Tree_found k_Tree_found).binds (ps := ["self", "path"]) fun _ _ _ _ _ _ us hl => match us, hl with | [_, _], _ => rfl,
    fn_Tree_found := fn_Tree_found,
    fi_Tree_found := fi_Tree_found,
    k_Tree_found := k_Tree_found,
    f_Tree_put := fun_mk (st := s_Tree_put) l_Tree_put c_Tree_put k_Tree_put,
    b_Tree_put := (fun_mk (st := s_Tree_put) l_Tree_put c_Tree_put k_Tree_put).binds (ps := ["self", "path", "lines"]) fun _ _ _ _ _ _ us hl => match us, hl with | [_, _, _], _ => rfl,
    fn_Tree_put := fn_Tree_put,
    fi_Tree_put := fi_Tree_put,
    k_Tree_put := k_Tree_put,
    f_Tree_drop := fun_mk (st := s_Tree_drop) l_Tree_drop c_Tree_drop k_Tree_drop,
    b_Tree_drop := (fun_mk (st := s_Tree_drop) l_Tree_drop c_Tree_drop k_Tree_drop).binds (ps := ["self", "path"]) fun _ _ _ _ _ _ us hl => match us, hl with | [_, _], _ => rfl,
    fn_Tree_drop := fn_Tree_drop,
    fi_Tree_drop := fi_Tree_drop,
    k_Tree_drop := k_Tree_drop,
    f_Tree_XeqX := fun_mk (st := s_Tree_XeqX) l_Tree_XeqX c_Tree_XeqX k_Tree_XeqX,
    b_Tree_XeqX := (fun_mk (st := s_Tree_XeqX) l_Tree_XeqX c_Tree_XeqX k_Tree_XeqX).binds (ps := ["self", "other"]) fun _ _ _ _ _ _ us hl => match us, hl with | [_, _], _ => rfl,
    fn_Tree_XeqX := fn_Tree_XeqX,
    fi_Tree_XeqX := fi_Tree_XeqX,
    k_Tree_XeqX := k_Tree_XeqX,
    f_Hunk_XinitX := fun_mk (st := s_Hunk_XinitX) l_Hunk_XinitX c_Hunk_XinitX k_Hunk_XinitX,
    b_Hunk_XinitX := (fun_mk (st := s_Hunk_XinitX) l_Hunk_XinitX c_Hunk_XinitX k_Hunk_XinitX).binds (ps := ["self", "at", "before", "after"]) fun _ _ _ _ _ _ us hl => match us, hl with | [_, _, _, _], _ => rfl,
    fn_Hunk_XinitX := fn_Hunk_XinitX,
    fi_Hunk_XinitX := fi_Hunk_XinitX,
    k_Hunk_XinitX := k_Hunk_XinitX,
    f_Hunk_growth := fun_mk (st := s_Hunk_growth) l_Hunk_growth c_Hunk_growth k_Hunk_growth,
    b_Hunk_growth := (fun_mk (st := s_Hunk_growth) l_Hunk_growth c_Hunk_growth k_Hunk_growth).binds (ps := ["self"]) fun _ _ _ _ _ _ us hl => match us, hl with | [_], _ => rfl,
    fn_Hunk_growth := fn_Hunk_growth,
    fi_Hunk_growth := fi_Hunk_growth,
    k_Hunk_growth := k_Hunk_growth,
    f_Hunk_end := fun_mk (st := s_Hunk_end) l_Hunk_end c_Hunk_end k_Hunk_end,
    b_Hunk_end := (fun_mk (st := s_Hunk_end) l_Hunk_end c_Hunk_end k_Hunk_end).binds (ps := ["self"]) fun _ _ _ _ _ _ us hl => match us, hl with | [_], _ => rfl,
    fn_Hunk_end := fn_Hunk_end,
    fi_Hunk_end := fi_Hunk_end,
    k_Hunk_end := k_Hunk_end,
    f_Hunk_XeqX := fun_mk (st := s_Hunk_XeqX) l_Hunk_XeqX c_Hunk_XeqX k_Hunk_XeqX,
    b_Hunk_XeqX := (fun_mk (st := s_Hunk_XeqX) l_Hunk_XeqX c_Hunk_XeqX k_Hunk_XeqX).binds (ps := ["self", "other"]) fun _ _ _ _ _ _ us hl => match us, hl with | [_, _], _ => rfl,
    fn_Hunk_XeqX := fn_Hunk_XeqX,
    fi_Hunk_XeqX := fi_Hunk_XeqX,
    k_Hunk_XeqX := k_Hunk_XeqX,
    f_Change_XinitX := fun_mk (st := s_Change_XinitX) l_Change_XinitX c_Change_XinitX k_Change_XinitX,
    b_Change_XinitX := (fun_mk (st := s_Change_XinitX) l_Change_XinitX c_Change_XinitX k_Change_XinitX).binds (ps := ["self", "path"]) fun _ _ _ _ _ _ us hl => match us, hl with | [_, _], _ => rfl,
    fn_Change_XinitX := fn_Change_XinitX,
    fi_Change_XinitX := fi_Change_XinitX,
    k_Change_XinitX := k_Change_XinitX,
    f_Change_content := fun_mk (st := s_Change_content) l_Change_content c_Change_content k_Change_content,
    b_Change_content := (fun_mk (st := s_Change_content) l_Change_content c_Change_content k_Change_content).binds (ps := ["self"]) fun _ _ _ _ _ _ us hl => match us, hl with | [_], _ => rfl,
    fn_Change_content := fn_Change_content,
    fi_Change_content := fi_Change_content,
    k_Change_content := k_Change_content,
    f_Change_XeqX := fun_mk (st := s_Change_XeqX) l_Change_XeqX c_Change_XeqX k_Change_XeqX,
    b_Change_XeqX := (fun_mk (st := s_Change_XeqX) l_Change_XeqX c_Change_XeqX k_Change_XeqX).binds (ps := ["self", "other"]) fun _ _ _ _ _ _ us hl => match us, hl with | [_, _], _ => rfl,
    fn_Change_XeqX := fn_Change_XeqX,
    fi_Change_XeqX := fi_Change_XeqX,
    k_Change_XeqX := k_Change_XeqX,
    f_Edit_XinitX := funS_mk (st := s_Edit_XinitX) l_Edit_XinitX c_Edit_XinitX ce_Edit_XinitX k_Edit_XinitX,
    stx_Edit_XinitX := ⟨⟨_, _, _, _, _, co_Edit_XinitX, vf_Edit_XinitX⟩, beq_self_eq_true _, rfl, PySem.W.mg_none_of X G zsuper, Option.isSome_iff_exists.mp ic_Edit, zany⟩,
    b_Edit_XinitX := (funS_mk (st := s_Edit_XinitX) l_Edit_XinitX c_Edit_XinitX ce_Edit_XinitX k_Edit_XinitX).binds (ps := ["self", "path", "hunks"]) fun _ _ _ _ _ _ us hl => match us, hl with | [_, _, _], _ => rfl,
    fn_Edit_XinitX := fn_Edit_XinitX,
    fi_Edit_XinitX := fi_Edit_XinitX,
    k_Edit_XinitX := k_Edit_XinitX,
    f_Edit_content := fun_mk (st := s_Edit_content) l_Edit_content c_Edit_content k_Edit_content,
    b_Edit_content := (fun_mk (st := s_Edit_content) l_Edit_content c_Edit_content k_Edit_content).binds (ps := ["self"]) fun _ _ _ _ _ _ us hl => match us, hl with | [_], _ => rfl,
    fn_Edit_content := fn_Edit_content,
    fi_Edit_content := fi_Edit_content,
    k_Edit_content := k_Edit_content,
    f_Create_XinitX := funS_mk (st := s_Create_XinitX) l_Create_XinitX c_Create_XinitX ce_Create_XinitX k_Create_XinitX,
    stx_Create_XinitX := ⟨⟨_, _, _, _, _, co_Create_XinitX, vf_Create_XinitX⟩, beq_self_eq_true _, rfl, PySem.W.mg_none_of X G zsuper, Option.isSome_iff_exists.mp ic_Create, zany⟩,
    b_Create_XinitX := (funS_mk (st := s_Create_XinitX) l_Create_XinitX c_Create_XinitX ce_Create_XinitX k_Create_XinitX).binds (ps := ["self", "path", "lines"]) fun _ _ _ _ _ _ us hl => match us, hl with | [_, _, _], _ => rfl,
    fn_Create_XinitX := fn_Create_XinitX,
    fi_Create_XinitX := fi_Create_XinitX,
    k_Create_XinitX := k_Create_XinitX,
    f_Create_content := fun_mk (st := s_Create_content) l_Create_content c_Create_content k_Create_content,
    b_Create_content := (fun_mk (st := s_Create_content) l_Create_content c_Create_content k_Create_content).binds (ps := ["self"]) fun _ _ _ _ _ _ us hl => match us, hl with | [_], _ => rfl,
    fn_Create_content := fn_Create_content,
    fi_Create_content := fi_Create_content,
    k_Create_content := k_Create_content,
    f_Remove_XinitX := funS_mk (st := s_Remove_XinitX) l_Remove_XinitX c_Remove_XinitX ce_Remove_XinitX k_Remove_XinitX,
    stx_Remove_XinitX := ⟨⟨_, _, _, _, _, co_Remove_XinitX, vf_Remove_XinitX⟩, beq_self_eq_true _, rfl, PySem.W.mg_none_of X G zsuper, Option.isSome_iff_exists.mp ic_Remove, zany⟩,
    b_Remove_XinitX := (funS_mk (st := s_Remove_XinitX) l_Remove_XinitX c_Remove_XinitX ce_Remove_XinitX k_Remove_XinitX).binds (ps := ["self", "path", "lines"]) fun _ _ _ _ _ _ us hl => match us, hl with | [_, _, _], _ => rfl,
    fn_Remove_XinitX := fn_Remove_XinitX,
    fi_Remove_XinitX := fi_Remove_XinitX,
    k_Remove_XinitX := k_Remove_XinitX,
    f_Remove_content := fun_mk (st := s_Remove_content) l_Remove_content c_Remove_content k_Remove_content,
    b_Remove_content := (fun_mk (st := s_Remove_content) l_Remove_content c_Remove_content k_Remove_content).binds (ps := ["self"]) fun _ _ _ _ _ _ us hl => match us, hl with | [_], _ => rfl,
    fn_Remove_content := fn_Remove_content,
    fi_Remove_content := fi_Remove_content,
    k_Remove_content := k_Remove_content,
    f_Patch_XinitX := fun_mk (st := s_Patch_XinitX) l_Patch_XinitX c_Patch_XinitX k_Patch_XinitX,
    b_Patch_XinitX := StX.bind_star2 (B := fun us => bindArgs (PySem.W.fnOf "__init__" "Patch.__init__" (defArgs s_Patch_XinitX) (defBody s_Patch_XinitX) (defScope s_Patch_XinitX) .none kV_Patch_XinitX dc_Patch_XinitX pm_Patch_XinitX an_Patch_XinitX cd_Patch_XinitX ct_Patch_XinitX) ⟨us, []⟩) (p1 := "self") (p2 := "name") (pv := "changes") (fun a b => rfl) (fun a b r rs => rfl),
    fn_Patch_XinitX := fn_Patch_XinitX,
    fi_Patch_XinitX := fi_Patch_XinitX,
    k_Patch_XinitX := k_Patch_XinitX,
    f_Patch_of := fun_mk (st := s_Patch_of) l_Patch_of c_Patch_of k_Patch_of,
    b_Patch_of := (fun_mk (st := s_Patch_of) l_Patch_of c_Patch_of k_Patch_of).binds (ps := ["cls", "name", "changes"]) fun _ _ _ _ _ _ us hl => match us, hl with | [_, _, _], _ => rfl,
    fn_Patch_of := fn_Patch_of,
    fi_Patch_of := fi_Patch_of,
    k_Patch_of := k_Patch_of,
    f_Patch_XeqX := fun_mk (st := s_Patch_XeqX) l_Patch_XeqX c_Patch_XeqX k_Patch_XeqX,
    b_Patch_XeqX := (fun_mk (st := s_Patch_XeqX) l_Patch_XeqX c_Patch_XeqX k_Patch_XeqX).binds (ps := ["self", "other"]) fun _ _ _ _ _ _ us hl => match us, hl with | [_, _], _ => rfl,
    fn_Patch_XeqX := fn_Patch_XeqX,
    fi_Patch_XeqX := fi_Patch_XeqX,
    k_Patch_XeqX := k_Patch_XeqX,
    f_first_wrong := fun_mk (st := s_first_wrong) l_first_wrong c_first_wrong k_first_wrong,
    b_first_wrong := (fun_mk (st := s_first_wrong) l_first_wrong c_first_wrong k_first_wrong).binds (ps := ["lines", "hunks"]) fun _ _ _ _ _ _ us hl => match us, hl with | [_, _], _ => rfl,
    m_first_wrong := PySem.W.mg_of X G a_first_wrong,
    k_first_wrong := k_first_wrong,
    f_edited := fun_mk (st := s_edited) l_edited c_edited k_edited,
    b_edited := (fun_mk (st := s_edited) l_edited c_edited k_edited).binds (ps := ["lines", "hunks"]) fun _ _ _ _ _ _ us hl => match us, hl with | [_, _], _ => rfl,
    m_edited := PySem.W.mg_of X G a_edited,
    k_edited := k_edited,
    f_applied := fun_mk (st := s_applied) l_applied c_applied k_applied,
    b_applied := (fun_mk (st := s_applied) l_applied c_applied k_applied).binds (ps := ["tree", "change"]) fun _ _ _ _ _ _ us hl => match us, hl with | [_, _], _ => rfl,
    m_applied := PySem.W.mg_of X G a_applied,
    k_applied := k_applied,
    f_apply_patch := fun_mk (st := s_apply_patch) l_apply_patch c_apply_patch k_apply_patch,
    b_apply_patch := (fun_mk (st := s_apply_patch) l_apply_patch c_apply_patch k_apply_patch).binds (ps := ["tree", "patch"]) fun _ _ _ _ _ _ us hl => match us, hl with | [_, _], _ => rfl,
    m_apply_patch := PySem.W.mg_of X G a_apply_patch,
    k_apply_patch := k_apply_patch,
    f_reversed_change := fun_mk (st := s_reversed_change) l_reversed_change c_reversed_change k_reversed_change,
    b_reversed_change := (fun_mk (st := s_reversed_change) l_reversed_change c_reversed_change k_reversed_change).binds (ps := ["change"]) fun _ _ _ _ _ _ us hl => match us, hl with | [_], _ => rfl,
    m_reversed_change := PySem.W.mg_of X G a_reversed_change,
    k_reversed_change := k_reversed_change,
    f_reversed_patch := fun_mk (st := s_reversed_patch) l_reversed_patch c_reversed_patch k_reversed_patch,
    b_reversed_patch := (fun_mk (st := s_reversed_patch) l_reversed_patch c_reversed_patch k_reversed_patch).binds (ps := ["patch"]) fun _ _ _ _ _ _ us hl => match us, hl with | [_], _ => rfl,
    m_reversed_patch := PySem.W.mg_of X G a_reversed_patch,
    k_reversed_patch := k_reversed_patch,
    f_law_source := fun_mk (st := s_law_source) l_law_source c_law_source k_law_source,
    b_law_source := (fun_mk (st := s_law_source) l_law_source c_law_source k_law_source).binds (ps := ["_law_script", "_law_index"]) fun _ _ _ _ _ _ us hl => match us, hl with | [_, _], _ => rfl,
    m_law_source := PySem.W.mg_of X G a_law_source,
    k_law_source := k_law_source,
    f_law_draw := fun_mk (st := s_law_draw) l_law_draw c_law_draw k_law_draw,
    b_law_draw := (fun_mk (st := s_law_draw) l_law_draw c_law_draw k_law_draw).binds (ps := ["_law_source_here", "_law_bound"]) fun _ _ _ _ _ _ us hl => match us, hl with | [_, _], _ => rfl,
    m_law_draw := PySem.W.mg_of X G a_law_draw,
    k_law_draw := k_law_draw,
    f_law_some_lines := fun_mk (st := s_law_some_lines) l_law_some_lines c_law_some_lines k_law_some_lines,
    b_law_some_lines := (fun_mk (st := s_law_some_lines) l_law_some_lines c_law_some_lines k_law_some_lines).binds (ps := ["_law_source_here", "_law_most", "_law_words"]) fun _ _ _ _ _ _ us hl => match us, hl with | [_, _, _], _ => rfl,
    m_law_some_lines := PySem.W.mg_of X G a_law_some_lines,
    k_law_some_lines := k_law_some_lines,
    f_law_drawn_tree := fun_mk (st := s_law_drawn_tree) l_law_drawn_tree c_law_drawn_tree k_law_drawn_tree,
    b_law_drawn_tree := (fun_mk (st := s_law_drawn_tree) l_law_drawn_tree c_law_drawn_tree k_law_drawn_tree).binds (ps := ["_law_source_here", "_law_many", "_law_most", "_law_words"]) fun _ _ _ _ _ _ us hl => match us, hl with | [_, _, _, _], _ => rfl,
    m_law_drawn_tree := PySem.W.mg_of X G a_law_drawn_tree,
    k_law_drawn_tree := k_law_drawn_tree,
    f_law_built := fun_mk (st := s_law_built) l_law_built c_law_built k_law_built,
    b_law_built := (fun_mk (st := s_law_built) l_law_built c_law_built k_law_built).binds (ps := ["_law_files"]) fun _ _ _ _ _ _ us hl => match us, hl with | [_], _ => rfl,
    m_law_built := PySem.W.mg_of X G a_law_built,
    k_law_built := k_law_built,
    f_law_exact_hunks := fun_mk (st := s_law_exact_hunks) l_law_exact_hunks c_law_exact_hunks k_law_exact_hunks,
    b_law_exact_hunks := (fun_mk (st := s_law_exact_hunks) l_law_exact_hunks c_law_exact_hunks k_law_exact_hunks).binds (ps := ["_law_source_here", "_law_lines", "_law_many", "_law_words"]) fun _ _ _ _ _ _ us hl => match us, hl with | [_, _, _, _], _ => rfl,
    m_law_exact_hunks := PySem.W.mg_of X G a_law_exact_hunks,
    k_law_exact_hunks := k_law_exact_hunks,
    f_law_exact_patch := fun_mk (st := s_law_exact_patch) l_law_exact_patch c_law_exact_patch k_law_exact_patch,
    b_law_exact_patch := (fun_mk (st := s_law_exact_patch) l_law_exact_patch c_law_exact_patch k_law_exact_patch).binds (ps := ["_law_source_here", "_law_files", "_law_name", "_law_words"]) fun _ _ _ _ _ _ us hl => match us, hl with | [_, _, _, _], _ => rfl,
    m_law_exact_patch := PySem.W.mg_of X G a_law_exact_patch,
    k_law_exact_patch := k_law_exact_patch,
    f_law := fun_mk (st := s_law) l_law c_law k_law,
    b_law := (fun_mk (st := s_law) l_law c_law k_law).binds (ps := ["_law_script"]) fun _ _ _ _ _ _ us hl => match us, hl with | [_], _ => rfl,
    m_law := PySem.W.mg_of X G a_law,
    k_law := k_law,
    g_LETTERS := ⟨_, PySem.W.mg_of X G gz_LETTERS, gr_LETTERS⟩,
    g_MOST_LETTERS := ⟨_, PySem.W.mg_of X G gz_MOST_LETTERS, gr_MOST_LETTERS⟩,
    g_MOST_PARTS := ⟨_, PySem.W.mg_of X G gz_MOST_PARTS, gr_MOST_PARTS⟩,
    g_MOST_PART := ⟨_, PySem.W.mg_of X G gz_MOST_PART, gr_MOST_PART⟩,
    ne_Hunk := ne_Hunk,
    ne_Change := ne_Change,
    ne_Edit := ne_Edit,
    ne_Create := ne_Create,
    ne_Remove := ne_Remove,
    ne_Patch := ne_Patch,
    ne_Tree := ne_Tree,
    su_Hunk := su_Hunk,
    st_Hunk := st_Hunk,
    nf_Hunk_Hunk := nf_Hunk_Hunk,
    nt_Hunk := nt_Hunk,
    su_Patch := su_Patch,
    st_Patch := st_Patch,
    nf_Patch_Patch := nf_Patch_Patch,
    nt_Patch := nt_Patch,
    su_Tree := su_Tree,
    st_Tree := st_Tree,
    nf_Tree_Tree := nf_Tree_Tree,
    nt_Tree := nt_Tree,
    ss_Patch := ss_Patch,
    ns_Patch := ns_Patch,
    su_Change := su_Change,
    se_Change := se_Change,
    sc_Change := sc_Change,
    sr_Change := sr_Change,
    nf_Change_Change := nf_Change_Change,
    mr2_Edit := mr2_Edit,
    mr2_Create := mr2_Create,
    mr2_Remove := mr2_Remove,
    su_Edit := su_Edit,
    se_Edit := se_Edit,
    sc_Edit := sc_Edit,
    sr_Edit := sr_Edit,
    si_Edit := si_Edit,
    mr_Edit := mr_Edit,
    nq_Edit := nq_Edit,
    nf_Edit_Change := nf_Edit_Change,
    nf_Edit_Edit := nf_Edit_Edit,
    nf_Edit_Create := nf_Edit_Create,
    nf_Edit_Remove := nf_Edit_Remove,
    su_Create := su_Create,
    se_Create := se_Create,
    sc_Create := sc_Create,
    sr_Create := sr_Create,
    si_Create := si_Create,
    mr_Create := mr_Create,
    nq_Create := nq_Create,
    nqe_Create := nqe_Create,
    nf_Create_Change := nf_Create_Change,
    nf_Create_Edit := nf_Create_Edit,
    nf_Create_Create := nf_Create_Create,
    nf_Create_Remove := nf_Create_Remove,
    su_Remove := su_Remove,
    se_Remove := se_Remove,
    sc_Remove := sc_Remove,
    sr_Remove := sr_Remove,
    si_Remove := si_Remove,
    mr_Remove := mr_Remove,
    nq_Remove := nq_Remove,
    nqe_Remove := nqe_Remove,
    nf_Remove_Change := nf_Remove_Change,
    nf_Remove_Edit := nf_Remove_Edit,
    nf_Remove_Create := nf_Remove_Create,
    nf_Remove_Remove := nf_Remove_Remove,
    nqCR := nqCR }

theorem walk {l : PySem.W.OpenLaw} {q : Program} {loose : List Str} {XP : (Str → Option Value) → Heap → Prop} {YP : World → Heap → Prop} {d : DefRec} {K : Params → PySem.W.Frag} (hn : l.most = some 63) (hdf : d.params.defaults = [])
    (hY : ∀ (w : World) (h : Heap), YP w h → (K w.params).In h)
    (F : ∀ (w : World) (mg : Str → Option Value) (fa : Addr) (h : Heap), (K w.params).In h → h.Ns mainGlobals mg → mg d.name = some (.ref fa) → ∃ ad : Ad, Txt l.prog (K w.params) mg ad ∧ ad.a_law = fa) :
    PySem.W.WalkO q loose XP YP l.row.toRowW d [] (fun f vs => PySem.call f vs) := by
  refine L2.walk_of (n := 63) (k := 24) (x := "_law_script") (CX := fun _ => CX0) (sp := fun w => spLaw (K w.params)) hn (by decide) hdf ⟨rfl, by decide, by decide⟩ hY ?_ (fun _ _ a ns hl _ hS => ⟨a, ns, rfl, hS, hl, fun _ => rfl⟩) fun _ _ _ _ _ z => z
  intro w mg fa h hK hG hm
  obtain ⟨ad, T, rfl⟩ := F w mg fa h hK hG hm
  refine ⟨ad.d_law, fun s v => ?_, fun base _ _ => ok_law T⟩
  obtain ⟨oc, od, kV, doc, pm, an, cdv, ct, osl, e, _⟩ := T.f_law.ex
  rw [e]
  exact .of_eq rfl

end Toy
open PySem PySem.W PyProof.Rows in
set_option maxRecDepth 100000 in
set_option maxHeartbeats 0 in
theorem PySem.Challenge.cw_sourcequeue_k08_reversed_patches_holds : PySem.Challenge.rw_sourcequeue_k08_reversed_patches.Holds := by
  w_on; o_law; k_headL; (case hw => w_witness2)
  k_fill
  refine Toy.walk (l := PySem.Challenge.rw_sourcequeue_k08_reversed_patches) rfl rfl (fun w h Y => PySem.W.kIn_of Y) ?F
  case F =>
    intro w mg fa h KX G hmg
    refine' Toy.all_mk KX G hmg ?zall ?zenumerate ?zisinstance ?zlen ?zmax ?zmin ?zrange ?zsorted ?zstr ?ztuple ?zzip ?hnx ?tkx ?mgx_Tree ?pg_Tree ?hd_Tree ?po_Tree ?sa_Tree ?oc_Tree ?om_Tree ?ic_Tree ?tc_Tree ?mk1_Tree ?kc_Tree ?na_Tree_by_path ?na_Tree_sorted_paths ?mgx_Hunk ?pg_Hunk ?hd_Hunk ?po_Hunk ?sa_Hunk ?oc_Hunk ?om_Hunk ?ic_Hunk ?tc_Hunk ?mk1_Hunk ?kc_Hunk ?na_Hunk_at ?na_Hunk_before ?na_Hunk_after ?mgx_Change ?pg_Change ?hd_Change ?po_Change ?sa_Change ?oc_Change ?om_Change ?ic_Change ?tc_Change ?mk1_Change ?kc_Change ?na_Change_path ?mgx_Edit ?pg_Edit ?hd_Edit ?po_Edit ?sa_Edit ?oc_Edit ?om_Edit ?ic_Edit ?tc_Edit ?mk1_Edit ?kc_Edit ?na_Edit_path ?na_Edit_hunks ?mgx_Create ?pg_Create ?hd_Create ?po_Create ?sa_Create ?oc_Create ?om_Create ?ic_Create ?tc_Create ?mk1_Create ?kc_Create ?na_Create_path ?na_Create_lines ?mgx_Remove ?pg_Remove ?hd_Remove ?po_Remove ?sa_Remove ?oc_Remove ?om_Remove ?ic_Remove ?tc_Remove ?mk1_Remove ?kc_Remove ?na_Remove_path ?na_Remove_lines ?mgx_Patch ?pg_Patch ?hd_Patch ?po_Patch ?sa_Patch ?oc_Patch ?om_Patch ?ic_Patch ?tc_Patch ?mk1_Patch ?kc_Patch ?rd_Patch ?rg_Patch ?na_Patch_name ?na_Patch_by_path ?na_Patch_changes ?mgx_BadPath ?mgx_NoFile ?mgx_Refused ?mgx_SourceError ?rd_SourceError ?rg_SourceError ?ri_SourceError ?mgx_BadName ?ox_BadName ?na_BadName_name ?mgx_BadHunk ?ox_BadHunk ?na_BadHunk_index ?mgx_BadPatch ?ox_BadPatch ?na_BadPatch_path ?a_BadName_XinitX ?l_BadName_XinitX ?c_BadName_XinitX ?k_BadName_XinitX ?fn_BadName_XinitX ?fi_BadName_XinitX ?a_BadHunk_XinitX ?l_BadHunk_XinitX ?c_BadHunk_XinitX ?k_BadHunk_XinitX ?fn_BadHunk_XinitX ?fi_BadHunk_XinitX ?a_BadPatch_XinitX ?l_BadPatch_XinitX ?c_BadPatch_XinitX ?k_BadPatch_XinitX ?fn_BadPatch_XinitX ?fi_BadPatch_XinitX ?a_is_word ?l_is_word ?c_is_word ?k_is_word ?a_is_name ?l_is_name ?c_is_name ?k_is_name ?a_is_path ?l_is_path ?c_is_path ?k_is_path ?a_Tree_XinitX ?l_Tree_XinitX ?c_Tree_XinitX ?k_Tree_XinitX ?fn_Tree_XinitX ?fi_Tree_XinitX ?a_Tree_files ?pg1_Tree_files ?pg2_Tree_files ?pg3_Tree_files ?l_Tree_files ?c_Tree_files ?k_Tree_files ?fn_Tree_files ?fi_Tree_files ?a_Tree_file ?l_Tree_file ?c_Tree_file ?k_Tree_file ?fn_Tree_file ?fi_Tree_file ?a_Tree_found ?l_Tree_found ?c_Tree_found ?k_Tree_found ?fn_Tree_found ?fi_Tree_found ?a_Tree_put ?l_Tree_put ?c_Tree_put ?k_Tree_put ?fn_Tree_put ?fi_Tree_put ?a_Tree_drop ?l_Tree_drop ?c_Tree_drop ?k_Tree_drop ?fn_Tree_drop ?fi_Tree_drop ?a_Tree_XeqX ?l_Tree_XeqX ?c_Tree_XeqX ?k_Tree_XeqX ?fn_Tree_XeqX ?fi_Tree_XeqX ?a_Hunk_XinitX ?l_Hunk_XinitX ?c_Hunk_XinitX ?k_Hunk_XinitX ?fn_Hunk_XinitX ?fi_Hunk_XinitX ?a_Hunk_growth ?pg1_Hunk_growth ?pg2_Hunk_growth ?pg3_Hunk_growth ?l_Hunk_growth ?c_Hunk_growth ?k_Hunk_growth ?fn_Hunk_growth ?fi_Hunk_growth ?a_Hunk_end ?l_Hunk_end ?c_Hunk_end ?k_Hunk_end ?fn_Hunk_end ?fi_Hunk_end ?a_Hunk_XeqX ?l_Hunk_XeqX ?c_Hunk_XeqX ?k_Hunk_XeqX ?fn_Hunk_XeqX ?fi_Hunk_XeqX ?a_Change_XinitX ?l_Change_XinitX ?c_Change_XinitX ?k_Change_XinitX ?fn_Change_XinitX ?fi_Change_XinitX ?a_Change_content ?l_Change_content ?c_Change_content ?k_Change_content ?fn_Change_content ?fi_Change_content ?a_Change_XeqX ?l_Change_XeqX ?c_Change_XeqX ?k_Change_XeqX ?fn_Change_XeqX ?fi_Change_XeqX ?a_Edit_XinitX ?l_Edit_XinitX ?c_Edit_XinitX ?ce_Edit_XinitX ?co_Edit_XinitX ?vf_Edit_XinitX ?k_Edit_XinitX ?fn_Edit_XinitX ?fi_Edit_XinitX ?a_Edit_content ?l_Edit_content ?c_Edit_content ?k_Edit_content ?fn_Edit_content ?fi_Edit_content ?a_Create_XinitX ?l_Create_XinitX ?c_Create_XinitX ?ce_Create_XinitX ?co_Create_XinitX ?vf_Create_XinitX ?k_Create_XinitX ?fn_Create_XinitX ?fi_Create_XinitX ?a_Create_content ?l_Create_content ?c_Create_content ?k_Create_content ?fn_Create_content ?fi_Create_content ?a_Remove_XinitX ?l_Remove_XinitX ?c_Remove_XinitX ?ce_Remove_XinitX ?co_Remove_XinitX ?vf_Remove_XinitX ?k_Remove_XinitX ?fn_Remove_XinitX ?fi_Remove_XinitX ?a_Remove_content ?l_Remove_content ?c_Remove_content ?k_Remove_content ?fn_Remove_content ?fi_Remove_content ?a_Patch_XinitX ?l_Patch_XinitX ?c_Patch_XinitX ?k_Patch_XinitX ?fn_Patch_XinitX ?fi_Patch_XinitX ?a_Patch_of ?pg3_Patch_of ?l_Patch_of ?c_Patch_of ?k_Patch_of ?fn_Patch_of ?fi_Patch_of ?a_Patch_XeqX ?l_Patch_XeqX ?c_Patch_XeqX ?k_Patch_XeqX ?fn_Patch_XeqX ?fi_Patch_XeqX ?a_first_wrong ?l_first_wrong ?c_first_wrong ?k_first_wrong ?a_edited ?l_edited ?c_edited ?k_edited ?a_applied ?l_applied ?c_applied ?k_applied ?a_apply_patch ?l_apply_patch ?c_apply_patch ?k_apply_patch ?a_reversed_change ?l_reversed_change ?c_reversed_change ?k_reversed_change ?a_reversed_patch ?l_reversed_patch ?c_reversed_patch ?k_reversed_patch ?a_law_source ?l_law_source ?c_law_source ?k_law_source ?a_law_draw ?l_law_draw ?c_law_draw ?k_law_draw ?a_law_some_lines ?l_law_some_lines ?c_law_some_lines ?k_law_some_lines ?a_law_drawn_tree ?l_law_drawn_tree ?c_law_drawn_tree ?k_law_drawn_tree ?a_law_built ?l_law_built ?c_law_built ?k_law_built ?a_law_exact_hunks ?l_law_exact_hunks ?c_law_exact_hunks ?k_law_exact_hunks ?a_law_exact_patch ?l_law_exact_patch ?c_law_exact_patch ?k_law_exact_patch ?a_law ?l_law ?c_law ?k_law ?zsuper ?zany ?co1_Change_KIND ?co2_Change_KIND ?co3_Change_KIND ?co4_Change_KIND ?me_Edit_XeqX ?co1_Edit_KIND ?co2_Edit_KIND ?co3_Edit_KIND ?co4_Edit_KIND ?me_Create_XeqX ?co1_Create_KIND ?co2_Create_KIND ?co3_Create_KIND ?co4_Create_KIND ?me_Remove_XeqX ?co1_Remove_KIND ?co2_Remove_KIND ?co3_Remove_KIND ?co4_Remove_KIND ?gz_LETTERS ?gr_LETTERS ?gz_MOST_LETTERS ?gr_MOST_LETTERS ?gz_MOST_PARTS ?gr_MOST_PARTS ?gz_MOST_PART ?gr_MOST_PART ?ne_Hunk ?ne_Change ?ne_Edit ?ne_Create ?ne_Remove ?ne_Patch ?ne_Tree ?su_Hunk ?st_Hunk ?nf_Hunk_Hunk ?nt_Hunk ?su_Patch ?st_Patch ?nf_Patch_Patch ?nt_Patch ?su_Tree ?st_Tree ?nf_Tree_Tree ?nt_Tree ?ss_Patch ?ns_Patch ?su_Change ?se_Change ?sc_Change ?sr_Change ?nf_Change_Change ?mr2_Edit ?mr2_Create ?mr2_Remove ?su_Edit ?se_Edit ?sc_Edit ?sr_Edit ?si_Edit ?mr_Edit ?nq_Edit ?nf_Edit_Change ?nf_Edit_Edit ?nf_Edit_Create ?nf_Edit_Remove ?su_Create ?se_Create ?sc_Create ?sr_Create ?si_Create ?mr_Create ?nq_Create ?nqe_Create ?nf_Create_Change ?nf_Create_Edit ?nf_Create_Create ?nf_Create_Remove ?su_Remove ?se_Remove ?sc_Remove ?sr_Remove ?si_Remove ?mr_Remove ?nq_Remove ?nqe_Remove ?nf_Remove_Change ?nf_Remove_Edit ?nf_Remove_Create ?nf_Remove_Remove ?nqCR
    (case zall => k_is)
    (case zenumerate => k_is)
    (case zisinstance => k_is)
    (case zlen => k_is)
    (case zmax => k_is)
    (case zmin => k_is)
    (case zrange => k_is)
    (case zsorted => k_is)
    (case zstr => k_is)
    (case ztuple => k_is)
    (case zzip => k_is)
    (case hnx => k_is)
    (case tkx => k_is)
    (case mgx_Tree => k_is)
    (case pg_Tree => k_is)
    (case hd_Tree => k_is)
    (case po_Tree => k_is)
    (case sa_Tree => k_is)
    (case oc_Tree => k_is)
    (case om_Tree => k_is)
    (case ic_Tree => k_is)
    (case tc_Tree => k_is)
    (case mk1_Tree => k_is)
    (case kc_Tree => k_is)
    (case na_Tree_by_path => k_is)
    (case na_Tree_sorted_paths => k_is)
    (case mgx_Hunk => k_is)
    (case pg_Hunk => k_is)
    (case hd_Hunk => k_is)
    (case po_Hunk => k_is)
    (case sa_Hunk => k_is)
    (case oc_Hunk => k_is)
    (case om_Hunk => k_is)
    (case ic_Hunk => k_is)
    (case tc_Hunk => k_is)
    (case mk1_Hunk => k_is)
    (case kc_Hunk => k_is)
    (case na_Hunk_at => k_is)
    (case na_Hunk_before => k_is)
    (case na_Hunk_after => k_is)
    (case mgx_Change => k_is)
    (case pg_Change => k_is)
    (case hd_Change => k_is)
    (case po_Change => k_is)
    (case sa_Change => k_is)
    (case oc_Change => k_is)
    (case om_Change => k_is)
    (case ic_Change => k_is)
    (case tc_Change => k_is)
    (case mk1_Change => k_is)
    (case kc_Change => k_is)
    (case na_Change_path => k_is)
    (case mgx_Edit => k_is)
    (case pg_Edit => k_is)
    (case hd_Edit => k_is)
    (case po_Edit => k_is)
    (case sa_Edit => k_is)
    (case oc_Edit => k_is)
    (case om_Edit => k_is)
    (case ic_Edit => k_is)
    (case tc_Edit => k_is)
    (case mk1_Edit => k_is)
    (case kc_Edit => k_is)
    (case na_Edit_path => k_is)
    (case na_Edit_hunks => k_is)
    (case mgx_Create => k_is)
    (case pg_Create => k_is)
    (case hd_Create => k_is)
    (case po_Create => k_is)
    (case sa_Create => k_is)
    (case oc_Create => k_is)
    (case om_Create => k_is)
    (case ic_Create => k_is)
    (case tc_Create => k_is)
    (case mk1_Create => k_is)
    (case kc_Create => k_is)
    (case na_Create_path => k_is)
    (case na_Create_lines => k_is)
    (case mgx_Remove => k_is)
    (case pg_Remove => k_is)
    (case hd_Remove => k_is)
    (case po_Remove => k_is)
    (case sa_Remove => k_is)
    (case oc_Remove => k_is)
    (case om_Remove => k_is)
    (case ic_Remove => k_is)
    (case tc_Remove => k_is)
    (case mk1_Remove => k_is)
    (case kc_Remove => k_is)
    (case na_Remove_path => k_is)
    (case na_Remove_lines => k_is)
    (case mgx_Patch => k_is)
    (case pg_Patch => k_is)
    (case hd_Patch => k_is)
    (case po_Patch => k_is)
    (case sa_Patch => k_is)
    (case oc_Patch => k_is)
    (case om_Patch => k_is)
    (case ic_Patch => k_is)
    (case tc_Patch => k_is)
    (case mk1_Patch => k_is)
    (case kc_Patch => k_is)
    (case rd_Patch => k_is)
    (case rg_Patch => k_is)
    (case na_Patch_name => k_is)
    (case na_Patch_by_path => k_is)
    (case na_Patch_changes => k_is)
    (case mgx_BadPath => k_is)
    (case mgx_NoFile => k_is)
    (case mgx_Refused => k_is)
    (case mgx_SourceError => k_is)
    (case rd_SourceError => k_is)
    (case rg_SourceError => k_is)
    (case ri_SourceError => k_is)
    (case mgx_BadName => k_is)
    (case ox_BadName => exact ⟨⟨⟨_, _, _, _, _, _, _, _, _, _, _, _, _, _, _, by k_is, by rfl⟩, by k_is, by k_is, by k_is, by k_is⟩, by k_is, by k_is, by k_is, by k_is, by k_is⟩)
    (case na_BadName_name => k_is)
    (case mgx_BadHunk => k_is)
    (case ox_BadHunk => exact ⟨⟨⟨_, _, _, _, _, _, _, _, _, _, _, _, _, _, _, by k_is, by rfl⟩, by k_is, by k_is, by k_is, by k_is⟩, by k_is, by k_is, by k_is, by k_is, by k_is⟩)
    (case na_BadHunk_index => k_is)
    (case mgx_BadPatch => k_is)
    (case ox_BadPatch => exact ⟨⟨⟨_, _, _, _, _, _, _, _, _, _, _, _, _, _, _, by k_is, by rfl⟩, by k_is, by k_is, by k_is, by k_is⟩, by k_is, by k_is, by k_is, by k_is, by k_is⟩)
    (case na_BadPatch_path => k_is)
    (case a_BadName_XinitX => k_is)
    (case l_BadName_XinitX => k_is)
    (case c_BadName_XinitX => k_is)
    (case k_BadName_XinitX => k_is)
    (case fn_BadName_XinitX => k_is)
    (case fi_BadName_XinitX => k_is)
    (case a_BadHunk_XinitX => k_is)
    (case l_BadHunk_XinitX => k_is)
    (case c_BadHunk_XinitX => k_is)
    (case k_BadHunk_XinitX => k_is)
    (case fn_BadHunk_XinitX => k_is)
    (case fi_BadHunk_XinitX => k_is)
    (case a_BadPatch_XinitX => k_is)
    (case l_BadPatch_XinitX => k_is)
    (case c_BadPatch_XinitX => k_is)
    (case k_BadPatch_XinitX => k_is)
    (case fn_BadPatch_XinitX => k_is)
    (case fi_BadPatch_XinitX => k_is)
    (case a_is_word => k_is)
    (case l_is_word => k_is)
    (case c_is_word => k_is)
    (case k_is_word => k_is)
    (case a_is_name => k_is)
    (case l_is_name => k_is)
    (case c_is_name => k_is)
    (case k_is_name => k_is)
    (case a_is_path => k_is)
    (case l_is_path => k_is)
    (case c_is_path => k_is)
    (case k_is_path => k_is)
    (case a_Tree_XinitX => k_is)
    (case l_Tree_XinitX => k_is)
    (case c_Tree_XinitX => k_is)
    (case k_Tree_XinitX => k_is)
    (case fn_Tree_XinitX => k_is)
    (case fi_Tree_XinitX => k_is)
    (case a_Tree_files => k_is)
    (case pg1_Tree_files => k_is)
    (case pg2_Tree_files => k_is)
    (case pg3_Tree_files => k_is)
    (case l_Tree_files => k_is)
    (case c_Tree_files => k_is)
    (case k_Tree_files => k_is)
    (case fn_Tree_files => k_is)
    (case fi_Tree_files => k_is)
    (case a_Tree_file => k_is)
    (case l_Tree_file => k_is)
    (case c_Tree_file => k_is)
    (case k_Tree_file => k_is)
    (case fn_Tree_file => k_is)
    (case fi_Tree_file => k_is)
    (case a_Tree_found => k_is)
    (case l_Tree_found => k_is)
    (case c_Tree_found => k_is)
    (case k_Tree_found => k_is)
    (case fn_Tree_found => k_is)
    (case fi_Tree_found => k_is)
    (case a_Tree_put => k_is)
    (case l_Tree_put => k_is)
    (case c_Tree_put => k_is)
    (case k_Tree_put => k_is)
    (case fn_Tree_put => k_is)
    (case fi_Tree_put => k_is)
    (case a_Tree_drop => k_is)
    (case l_Tree_drop => k_is)
    (case c_Tree_drop => k_is)
    (case k_Tree_drop => k_is)
    (case fn_Tree_drop => k_is)
    (case fi_Tree_drop => k_is)
    (case a_Tree_XeqX => k_is)
    (case l_Tree_XeqX => k_is)
    (case c_Tree_XeqX => k_is)
    (case k_Tree_XeqX => k_is)
    (case fn_Tree_XeqX => k_is)
    (case fi_Tree_XeqX => k_is)
    (case a_Hunk_XinitX => k_is)
    (case l_Hunk_XinitX => k_is)
    (case c_Hunk_XinitX => k_is)
    (case k_Hunk_XinitX => k_is)
    (case fn_Hunk_XinitX => k_is)
    (case fi_Hunk_XinitX => k_is)
    (case a_Hunk_growth => k_is)
    (case pg1_Hunk_growth => k_is)
    (case pg2_Hunk_growth => k_is)
    (case pg3_Hunk_growth => k_is)
    (case l_Hunk_growth => k_is)
    (case c_Hunk_growth => k_is)
    (case k_Hunk_growth => k_is)
    (case fn_Hunk_growth => k_is)
    (case fi_Hunk_growth => k_is)
    (case a_Hunk_end => k_is)
    (case l_Hunk_end => k_is)
    (case c_Hunk_end => k_is)
    (case k_Hunk_end => k_is)
    (case fn_Hunk_end => k_is)
    (case fi_Hunk_end => k_is)
    (case a_Hunk_XeqX => k_is)
    (case l_Hunk_XeqX => k_is)
    (case c_Hunk_XeqX => k_is)
    (case k_Hunk_XeqX => k_is)
    (case fn_Hunk_XeqX => k_is)
    (case fi_Hunk_XeqX => k_is)
    (case a_Change_XinitX => k_is)
    (case l_Change_XinitX => k_is)
    (case c_Change_XinitX => k_is)
    (case k_Change_XinitX => k_is)
    (case fn_Change_XinitX => k_is)
    (case fi_Change_XinitX => k_is)
    (case a_Change_content => k_is)
    (case l_Change_content => k_is)
    (case c_Change_content => k_is)
    (case k_Change_content => k_is)
    (case fn_Change_content => k_is)
    (case fi_Change_content => k_is)
    (case a_Change_XeqX => k_is)
    (case l_Change_XeqX => k_is)
    (case c_Change_XeqX => k_is)
    (case k_Change_XeqX => k_is)
    (case fn_Change_XeqX => k_is)
    (case fi_Change_XeqX => k_is)
    (case a_Edit_XinitX => k_is)
    (case l_Edit_XinitX => k_is)
    (case c_Edit_XinitX => k_is)
    (case ce_Edit_XinitX => k_is)
    (case co_Edit_XinitX => k_is)
    (case vf_Edit_XinitX => rfl)
    (case k_Edit_XinitX => k_is)
    (case fn_Edit_XinitX => k_is)
    (case fi_Edit_XinitX => k_is)
    (case a_Edit_content => k_is)
    (case l_Edit_content => k_is)
    (case c_Edit_content => k_is)
    (case k_Edit_content => k_is)
    (case fn_Edit_content => k_is)
    (case fi_Edit_content => k_is)
    (case a_Create_XinitX => k_is)
    (case l_Create_XinitX => k_is)
    (case c_Create_XinitX => k_is)
    (case ce_Create_XinitX => k_is)
    (case co_Create_XinitX => k_is)
    (case vf_Create_XinitX => rfl)
    (case k_Create_XinitX => k_is)
    (case fn_Create_XinitX => k_is)
    (case fi_Create_XinitX => k_is)
    (case a_Create_content => k_is)
    (case l_Create_content => k_is)
    (case c_Create_content => k_is)
    (case k_Create_content => k_is)
    (case fn_Create_content => k_is)
    (case fi_Create_content => k_is)
    (case a_Remove_XinitX => k_is)
    (case l_Remove_XinitX => k_is)
    (case c_Remove_XinitX => k_is)
    (case ce_Remove_XinitX => k_is)
    (case co_Remove_XinitX => k_is)
    (case vf_Remove_XinitX => rfl)
    (case k_Remove_XinitX => k_is)
    (case fn_Remove_XinitX => k_is)
    (case fi_Remove_XinitX => k_is)
    (case a_Remove_content => k_is)
    (case l_Remove_content => k_is)
    (case c_Remove_content => k_is)
    (case k_Remove_content => k_is)
    (case fn_Remove_content => k_is)
    (case fi_Remove_content => k_is)
    (case a_Patch_XinitX => k_is)
    (case l_Patch_XinitX => k_is)
    (case c_Patch_XinitX => k_is)
    (case k_Patch_XinitX => k_is)
    (case fn_Patch_XinitX => k_is)
    (case fi_Patch_XinitX => k_is)
    (case a_Patch_of => k_is)
    (case pg3_Patch_of => k_is)
    (case l_Patch_of => k_is)
    (case c_Patch_of => k_is)
    (case k_Patch_of => k_is)
    (case fn_Patch_of => k_is)
    (case fi_Patch_of => k_is)
    (case a_Patch_XeqX => k_is)
    (case l_Patch_XeqX => k_is)
    (case c_Patch_XeqX => k_is)
    (case k_Patch_XeqX => k_is)
    (case fn_Patch_XeqX => k_is)
    (case fi_Patch_XeqX => k_is)
    (case a_first_wrong => k_is)
    (case l_first_wrong => k_is)
    (case c_first_wrong => k_is)
    (case k_first_wrong => k_is)
    (case a_edited => k_is)
    (case l_edited => k_is)
    (case c_edited => k_is)
    (case k_edited => k_is)
    (case a_applied => k_is)
    (case l_applied => k_is)
    (case c_applied => k_is)
    (case k_applied => k_is)
    (case a_apply_patch => k_is)
    (case l_apply_patch => k_is)
    (case c_apply_patch => k_is)
    (case k_apply_patch => k_is)
    (case a_reversed_change => k_is)
    (case l_reversed_change => k_is)
    (case c_reversed_change => k_is)
    (case k_reversed_change => k_is)
    (case a_reversed_patch => k_is)
    (case l_reversed_patch => k_is)
    (case c_reversed_patch => k_is)
    (case k_reversed_patch => k_is)
    (case a_law_source => k_is)
    (case l_law_source => k_is)
    (case c_law_source => k_is)
    (case k_law_source => k_is)
    (case a_law_draw => k_is)
    (case l_law_draw => k_is)
    (case c_law_draw => k_is)
    (case k_law_draw => k_is)
    (case a_law_some_lines => k_is)
    (case l_law_some_lines => k_is)
    (case c_law_some_lines => k_is)
    (case k_law_some_lines => k_is)
    (case a_law_drawn_tree => k_is)
    (case l_law_drawn_tree => k_is)
    (case c_law_drawn_tree => k_is)
    (case k_law_drawn_tree => k_is)
    (case a_law_built => k_is)
    (case l_law_built => k_is)
    (case c_law_built => k_is)
    (case k_law_built => k_is)
    (case a_law_exact_hunks => k_is)
    (case l_law_exact_hunks => k_is)
    (case c_law_exact_hunks => k_is)
    (case k_law_exact_hunks => k_is)
    (case a_law_exact_patch => k_is)
    (case l_law_exact_patch => k_is)
    (case c_law_exact_patch => k_is)
    (case k_law_exact_patch => k_is)
    (case a_law => k_is)
    (case l_law => k_is)
    (case c_law => k_is)
    (case k_law => k_is)
    (case zsuper => k_is)
    (case zany => k_is)
    (case co1_Change_KIND => k_is)
    (case co2_Change_KIND => exact ⟨_, rfl⟩)
    (case co3_Change_KIND => k_is)
    (case co4_Change_KIND => decide +kernel)
    (case me_Edit_XeqX => k_is)
    (case co1_Edit_KIND => k_is)
    (case co2_Edit_KIND => exact ⟨_, rfl⟩)
    (case co3_Edit_KIND => k_is)
    (case co4_Edit_KIND => decide +kernel)
    (case me_Create_XeqX => k_is)
    (case co1_Create_KIND => k_is)
    (case co2_Create_KIND => exact ⟨_, rfl⟩)
    (case co3_Create_KIND => k_is)
    (case co4_Create_KIND => decide +kernel)
    (case me_Remove_XeqX => k_is)
    (case co1_Remove_KIND => k_is)
    (case co2_Remove_KIND => exact ⟨_, rfl⟩)
    (case co3_Remove_KIND => k_is)
    (case co4_Remove_KIND => decide +kernel)
    (case gz_LETTERS => k_is)
    (case gr_LETTERS => exact ⟨_, rfl⟩)
    (case gz_MOST_LETTERS => k_is)
    (case gr_MOST_LETTERS => exact ⟨_, rfl⟩)
    (case gz_MOST_PARTS => k_is)
    (case gr_MOST_PARTS => exact ⟨_, rfl⟩)
    (case gz_MOST_PART => k_is)
    (case gr_MOST_PART => exact ⟨_, rfl⟩)
    (case ne_Hunk => k_is)
    (case ne_Change => k_is)
    (case ne_Edit => k_is)
    (case ne_Create => k_is)
    (case ne_Remove => k_is)
    (case ne_Patch => k_is)
    (case ne_Tree => k_is)
    (case su_Hunk => k_is)
    (case st_Hunk => k_is)
    (case nf_Hunk_Hunk => k_is)
    (case nt_Hunk => k_is)
    (case su_Patch => k_is)
    (case st_Patch => k_is)
    (case nf_Patch_Patch => k_is)
    (case nt_Patch => k_is)
    (case su_Tree => k_is)
    (case st_Tree => k_is)
    (case nf_Tree_Tree => k_is)
    (case nt_Tree => k_is)
    (case ss_Patch => k_is)
    (case ns_Patch => k_is)
    (case su_Change => k_is)
    (case se_Change => k_is)
    (case sc_Change => k_is)
    (case sr_Change => k_is)
    (case nf_Change_Change => k_is)
    (case mr2_Edit => k_is)
    (case mr2_Create => k_is)
    (case mr2_Remove => k_is)
    (case su_Edit => k_is)
    (case se_Edit => k_is)
    (case sc_Edit => k_is)
    (case sr_Edit => k_is)
    (case si_Edit => ks_is)
    (case mr_Edit => k_is)
    (case nq_Edit => decide)
    (case nf_Edit_Change => k_is)
    (case nf_Edit_Edit => k_is)
    (case nf_Edit_Create => k_is)
    (case nf_Edit_Remove => k_is)
    (case su_Create => k_is)
    (case se_Create => k_is)
    (case sc_Create => k_is)
    (case sr_Create => k_is)
    (case si_Create => ks_is)
    (case mr_Create => k_is)
    (case nq_Create => decide)
    (case nqe_Create => decide)
    (case nf_Create_Change => k_is)
    (case nf_Create_Edit => k_is)
    (case nf_Create_Create => k_is)
    (case nf_Create_Remove => k_is)
    (case su_Remove => k_is)
    (case se_Remove => k_is)
    (case sc_Remove => k_is)
    (case sr_Remove => k_is)
    (case si_Remove => ks_is)
    (case mr_Remove => k_is)
    (case nq_Remove => decide)
    (case nqe_Remove => decide)
    (case nf_Remove_Change => k_is)
    (case nf_Remove_Edit => k_is)
    (case nf_Remove_Create => k_is)
    (case nf_Remove_Remove => k_is)
    (case nqCR => decide)


